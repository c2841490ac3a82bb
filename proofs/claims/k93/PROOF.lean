import PyProof.Rows.All
import Wide.All
import OpenK.AllK
import Wide.FinOn
import HandS.ForMost
import HandS.ForExc
import HandS.Star
import HandS.TupAny
import HandS.Flow
import HandS.ExcIs
import HandS.ExcInit
import HandS.IsInst
import HandS.HotCalls
import KE.KExcSuper
import HandS.Nested
import HandS.ExcInitHot
import HandS.ExcField
import KE.KExcIs
import PySem.Challenge.RW_describedonce_k93_history
set_option Elab.async false
set_option linter.all false
set_option maxRecDepth 100000
set_option maxHeartbeats 4000000
/-! DL: a logic over data alone. A value is told as a datum D; what may change lies in a store M of mutable objects, named by their number (ptr). -/
namespace DL
open PySem L2

inductive D where
  | non | bl (b : Bool) | int (i : Int) | str (x : Str)
  | tup (ds : List D) | lst (ds : List D) | rol (ds : List D)
  | obj (C : Addr) (fs : List (Str × D))
  | dk (kvs : List (Key × D))
  | ptr (i : Nat) | gl (a : Addr) | ty (n : String)
  | exc (a : Addr) (d : Option Addr) (fs : List (Str × D))

/-- an object that may change; gone: it is no longer looked at -/
inductive MO where
  | lst (ds : List D) | ins (C : Addr) (fs : List (Str × D)) | dk (kvs : List (Key × D)) | gone

mutual
/-- v is the datum d; G: what stays as it is, as: where the objects of the store lie -/
inductive R (K : PySem.W.Frag) (G : Hp) (as : List Addr) : V → D → Prop
  | non : R K G as .non .non
  | bl (b : Bool) : R K G as (.bl b) (.bl b)
  | int (i : Int) : R K G as (.int i) (.int i)
  | str (x : Str) : R K G as (.str x) (.str x)
  | tup {a : Addr} {vs : List V} {ds : List D} : SqT K G a vs → RA K G as vs ds → R K G as (.ref a) (.tup ds)
  | lst {a : Addr} {vs : List V} {ds : List D} : G a = some (.lst vs) → RA K G as vs ds → R K G as (.ref a) (.lst ds)
  | rol {a : Addr} {vs : List V} {ds : List D} : SqL K G a vs → RA K G as vs ds → R K G as (.ref a) (.rol ds)
  | obj {a C dx : Addr} {fs : List (Str × V)} {ds : List (Str × D)} : G a = some (.ins C dx fs) → RF K G as fs ds → R K G as (.ref a) (.obj C ds)
  | dk {a : Addr} {kvs : List (Key × V)} {ds : List (Key × D)} : Rd G a (.dK kvs) → RK K G as kvs ds → R K G as (.ref a) (.dk ds)
  | ptr {i : Nat} {a : Addr} : as[i]? = some a → R K G as (.ref a) (.ptr i)
  | gl (a : Addr) : R K G as (.ref a) (.gl a)
  | ty (n : String) : R K G as (.ty n) (.ty n)
  | excN (a : Addr) : R K G as (.ref a) (.exc a none [])
  | excS {a dd : Addr} {fs : List (Str × V)} {ds : List (Str × D)} : G dd = some (.xd fs) → RF K G as fs ds → R K G as (.ref a) (.exc a (some dd) ds)
inductive RA (K : PySem.W.Frag) (G : Hp) (as : List Addr) : List V → List D → Prop
  | nil : RA K G as [] []
  | cons {v : V} {vs : List V} {d : D} {ds : List D} : R K G as v d → RA K G as vs ds → RA K G as (v :: vs) (d :: ds)
inductive RF (K : PySem.W.Frag) (G : Hp) (as : List Addr) : List (Str × V) → List (Str × D) → Prop
  | nil : RF K G as [] []
  | cons {f : Str} {v : V} {vs : List (Str × V)} {d : D} {ds : List (Str × D)} : R K G as v d → RF K G as vs ds → RF K G as ((f, v) :: vs) ((f, d) :: ds)
inductive RK (K : PySem.W.Frag) (G : Hp) (as : List Addr) : List (Key × V) → List (Key × D) → Prop
  | nil : RK K G as [] []
  | cons {f : Key} {v : V} {vs : List (Key × V)} {d : D} {ds : List (Key × D)} : R K G as v d → RK K G as vs ds → RK K G as ((f, v) :: vs) ((f, d) :: ds)
end

/-- G' knows all that G knows, as' goes on where as ends -/
def Sub (G G' : Hp) : Prop := ∀ a o, G a = some o → G' a = some o
def Pre (as as' : List Addr) : Prop := ∀ (i : Nat) a, as[i]? = some a → as'[i]? = some a
theorem Sub.refl (G : Hp) : Sub G G := fun _ _ h => h
theorem Sub.trans {G G1 G2 : Hp} (h : Sub G G1) (k : Sub G1 G2) : Sub G G2 := fun a o e => k a o (h a o e)
theorem Pre.refl (as : List Addr) : Pre as as := fun _ _ h => h
theorem Pre.trans {as a1 a2 : List Addr} (h : Pre as a1) (k : Pre a1 a2) : Pre as a2 := fun i a e => k i a (h i a e)
theorem Pre.snoc (as : List Addr) (p : Addr) : Pre as (as ++ [p]) := fun i a e => by
  have h := (List.getElem?_eq_some_iff.mp e).1
  rw [List.getElem?_append_left h]
  exact e

section
variable {K : PySem.W.Frag} {G G' : Hp} {as as' : List Addr}
theorem Sub.rd {a : Addr} {u : HO} (h : Sub G G') (r : Rd G a u) : Rd G' a u := by
  rcases r with r | ⟨o, r⟩
  · exact .inl (h a _ r)
  · exact .inr ⟨o, h a _ r⟩
theorem Sub.sqL {a : Addr} {xs : List V} (h : Sub G G') (r : SqL K G a xs) : SqL K G' a xs := by
  rcases r with r | r
  · exact .inl (h.rd r)
  · exact .inr r
theorem Sub.sqT {a : Addr} {xs : List V} (h : Sub G G') (r : SqT K G a xs) : SqT K G' a xs := by
  rcases r with r | r
  · exact .inl (h.rd r)
  · exact .inr r
mutual
theorem R.mono (h : Sub G G') (k : Pre as as') : ∀ {v : V} {d : D}, R K G as v d → R K G' as' v d
  | _, _, .non => .non
  | _, _, .bl b => .bl b
  | _, _, .int i => .int i
  | _, _, .str x => .str x
  | _, _, .tup s r => .tup (h.sqT s) (RA.mono h k r)
  | _, _, .lst s r => .lst (h _ _ s) (RA.mono h k r)
  | _, _, .rol s r => .rol (h.sqL s) (RA.mono h k r)
  | _, _, .obj e r => .obj (h _ _ e) (RF.mono h k r)
  | _, _, .dk e r => .dk (h.rd e) (RK.mono h k r)
  | _, _, .ptr e => .ptr (k _ _ e)
  | _, _, .gl a => .gl a
  | _, _, .ty n => .ty n
  | _, _, .excN a => .excN a
  | _, _, .excS e r => .excS (h _ _ e) (RF.mono h k r)
theorem RA.mono (h : Sub G G') (k : Pre as as') : ∀ {v : List V} {d : List D}, RA K G as v d → RA K G' as' v d
  | _, _, .nil => .nil
  | _, _, .cons a b => .cons (R.mono h k a) (RA.mono h k b)
theorem RF.mono (h : Sub G G') (k : Pre as as') : ∀ {v : List (Str × V)} {d : List (Str × D)}, RF K G as v d → RF K G' as' v d
  | _, _, .nil => .nil
  | _, _, .cons a b => .cons (R.mono h k a) (RF.mono h k b)
theorem RK.mono (h : Sub G G') (k : Pre as as') : ∀ {v : List (Key × V)} {d : List (Key × D)}, RK K G as v d → RK K G' as' v d
  | _, _, .nil => .nil
  | _, _, .cons a b => .cons (R.mono h k a) (RK.mono h k b)
end
theorem RA.len : ∀ {v : List V} {d : List D}, RA K G as v d → v.length = d.length
  | _, _, .nil => rfl
  | _, _, .cons _ b => by rw [List.length_cons, List.length_cons, RA.len b]
theorem RA.get : ∀ {v : List V} {d : List D} {i : Nat} {x : V}, RA K G as v d → v[i]? = some x → ∃ y, d[i]? = some y ∧ R K G as x y
  | _, _, _, _, .nil, e => by simp at e
  | _, _, 0, _, .cons a _, e => by simp at e; subst e; exact ⟨_, rfl, a⟩
  | _, _, i + 1, x, .cons _ b, e => by
    obtain ⟨y, h1, h2⟩ := RA.get (i := i) (x := x) b (by simpa using e)
    exact ⟨y, by simpa using h1, h2⟩
theorem RA.getD : ∀ {v : List V} {d : List D} {i : Nat} {y : D}, RA K G as v d → d[i]? = some y → ∃ x, v[i]? = some x ∧ R K G as x y
  | _, _, _, _, .nil, e => by simp at e
  | _, _, 0, _, .cons a _, e => by simp at e; subst e; exact ⟨_, rfl, a⟩
  | _, _, i + 1, y, .cons _ b, e => by
    obtain ⟨x, h1, h2⟩ := RA.getD (i := i) (y := y) b (by simpa using e)
    exact ⟨x, by simpa using h1, h2⟩
theorem RA.append : ∀ {v w : List V} {d e : List D}, RA K G as v d → RA K G as w e → RA K G as (v ++ w) (d ++ e)
  | _, _, _, _, .nil, s => s
  | _, _, _, _, .cons a b, s => .cons a (RA.append b s)
theorem RA.one {v : V} {d : D} (h : R K G as v d) : RA K G as [v] [d] := .cons h .nil
theorem RA.set {x : V} {y : D} (r : R K G as x y) : ∀ {v : List V} {d : List D} (i : Nat), RA K G as v d → RA K G as (v.set i x) (d.set i y)
  | _, _, _, .nil => .nil
  | _, _, 0, .cons _ b => .cons r b
  | _, _, i + 1, .cons a b => .cons a (RA.set r i b)
theorem RA.take : ∀ {v : List V} {d : List D} (n : Nat), RA K G as v d → RA K G as (v.take n) (d.take n)
  | _, _, 0, _ => .nil
  | _, _, _ + 1, .nil => .nil
  | _, _, n + 1, .cons a b => .cons a (RA.take n b)
theorem RA.drop : ∀ {v : List V} {d : List D} (n : Nat), RA K G as v d → RA K G as (v.drop n) (d.drop n)
  | _, _, 0, r => r
  | _, _, _ + 1, .nil => .nil
  | _, _, n + 1, .cons _ b => RA.drop n b
theorem RA.rev : ∀ {v : List V} {d : List D}, RA K G as v d → RA K G as v.reverse d.reverse
  | _, _, .nil => .nil
  | _, _, .cons a b => by
    rw [List.reverse_cons, List.reverse_cons]
    exact RA.append (RA.rev b) (RA.one a)
theorem RA.dropLast {v : List V} {d : List D} (r : RA K G as v d) : RA K G as v.dropLast d.dropLast := by
  rw [List.dropLast_eq_take, List.dropLast_eq_take, r.len]
  exact RA.take _ r
theorem RF.len : ∀ {v : List (Str × V)} {d : List (Str × D)}, RF K G as v d → v.length = d.length
  | _, _, .nil => rfl
  | _, _, .cons _ b => by rw [List.length_cons, List.length_cons, RF.len b]
/-- a field -/
def fget (f : Str) : List (Str × D) → Option D
  | [] => none
  | (g, d) :: r => if f = g then some d else fget f r
def fput (f : Str) (x : D) : List (Str × D) → List (Str × D)
  | [] => [(f, x)]
  | (g, d) :: r => if g = f then (g, x) :: r else (g, d) :: fput f x r
theorem RF.get {f : Str} : ∀ {v : List (Str × V)} {d : List (Str × D)} {y : D}, RF K G as v d → fget f d = some y → ∃ x, v.lookup f = some x ∧ R K G as x y
  | _, _, _, .nil, e => by cases e
  | _, _, y, .cons (f := g) (v := u) (d := z) a b, e => by
    unfold fget at e
    by_cases h : f = g
    · subst h
      rw [if_pos rfl] at e
      cases e
      exact ⟨u, by simp [List.lookup], a⟩
    · rw [if_neg h] at e
      obtain ⟨x, h1, h2⟩ := RF.get b e
      refine ⟨x, ?_, h2⟩
      have q : (f == g) = false := by simpa using h
      simp only [List.lookup, q]
      exact h1
theorem RF.no {f : Str} : ∀ {v : List (Str × V)} {d : List (Str × D)}, RF K G as v d → fget f d = none → v.lookup f = none
  | _, _, .nil, _ => rfl
  | _, _, .cons (f := g) (v := u) (d := z) a b, e => by
    unfold fget at e
    by_cases h : f = g
    · rw [if_pos h] at e
      cases e
    · rw [if_neg h] at e
      have q : (f == g) = false := by simpa using h
      simp only [List.lookup, q]
      exact RF.no b e
theorem RF.put {f : Str} {x : V} {y : D} (r : R K G as x y) : ∀ {v : List (Str × V)} {d : List (Str × D)}, RF K G as v d → RF K G as (putF f x v) (fput f y d)
  | _, _, .nil => .cons r .nil
  | _, _, .cons (f := g) (v := u) (d := z) (vs := vs) (ds := ds) a b => by
    show RF K G as (if g = f then (g, x) :: vs else (g, u) :: putF f x vs) (if g = f then (g, y) :: ds else (g, z) :: fput f y ds)
    by_cases h : g = f
    · rw [if_pos h, if_pos h]
      exact .cons r b
    · rw [if_neg h, if_neg h]
      exact .cons a (RF.put r b)
end
end DL
namespace DL
open PySem L2

def MOk (K : PySem.W.Frag) (H G : Hp) (as : List Addr) (a : Addr) : MO → Prop
  | .lst ds => G a = none ∧ ∃ vs, H a = some (.lst vs) ∧ RA K G as vs ds
  | .ins C fs => G a = none ∧ ∃ dx vs, H a = some (.ins C dx vs) ∧ RF K G as vs fs
  | .dk kvs => G a = none ∧ ∃ vs, H a = some (.dK vs) ∧ RK K G as vs kvs
  | .gone => ∃ o, H a = some o
/-- the heap H holds what G says, and the store M at the addresses as -/
structure Wld (K : PySem.W.Frag) (H G : Hp) (as : List Addr) (M : List MO) : Prop where
  sub : Sub G H
  nd : as.Nodup
  len : as.length = M.length
  obj : ∀ (i : Nat) a m, as[i]? = some a → M[i]? = some m → MOk K H G as a m
/-- what is behind a step -/
structure Ext (H G : Hp) (as : List Addr) (H' G' : Hp) (as' : List Addr) : Prop where
  g : Sub G G'
  p : Pre as as'
  k : ∀ a o, H a = some o → a ∉ as → H' a = some o
  f : ∀ a, a ∈ as' → a ∉ as → H a = none
theorem Ext.refl (H G : Hp) (as : List Addr) : Ext H G as H G as := ⟨Sub.refl G, Pre.refl as, fun _ _ h _ => h, fun _ h n => absurd h n⟩
theorem Ext.trans {H G H1 G1 H2 G2 : Hp} {as a1 a2 : List Addr} (x : Ext H G as H1 G1 a1) (y : Ext H1 G1 a1 H2 G2 a2) : Ext H G as H2 G2 a2 where
  g := x.g.trans y.g
  p := x.p.trans y.p
  k := fun a o h n => y.k a o (x.k a o h n) fun m => by
    have q := x.f a m n
    rw [h] at q
    cases q
  f := fun a m n => by
    by_cases h : a ∈ a1
    · exact x.f a h n
    · have q := y.f a m h
      cases e : H a with
      | none => rfl
      | some o =>
        rw [x.k a o e n] at q
        cases q

/-- the names' values -/
structure LR (K : PySem.W.Frag) (G : Hp) (as : List Addr) (σ : St) (es : List (Option D)) : Prop where
  len : σ.length = es.length
  at_ : ∀ (i : Nat) d, es[i]? = some (some d) → ∃ v, σ[i]? = some (some v) ∧ R K G as v d
section
variable {K : PySem.W.Frag} {H G H' G' : Hp} {as as' : List Addr} {M M' : List MO} {σ σ' : St} {es es' : List (Option D)}
theorem LR.mono (l : LR K G as σ es) (h : Sub G G') (k : Pre as as') : LR K G' as' σ es :=
  ⟨l.len, fun i d e => let ⟨v, e1, r⟩ := l.at_ i d e; ⟨v, e1, r.mono h k⟩⟩
theorem LR.ext (l : LR K G as σ es) (x : Ext H G as H' G' as') : LR K G' as' σ es := l.mono x.g x.p
theorem R.ext {v : V} {d : D} (r : R K G as v d) (x : Ext H G as H' G' as') : R K G' as' v d := r.mono x.g x.p
theorem RA.ext {v : List V} {d : List D} (r : RA K G as v d) (x : Ext H G as H' G' as') : RA K G' as' v d := r.mono x.g x.p
theorem LR.set {i : Nat} {v : V} {d : D} (l : LR K G as σ es) (r : R K G as v d) : LR K G as (σ.set i (some v)) (es.set i (some d)) := by
  refine ⟨by rw [List.length_set, List.length_set, l.len], fun j e h => ?_⟩
  by_cases q : i = j
  · subst q
    rw [List.getElem?_set] at h
    by_cases z : i < es.length
    · rw [if_pos rfl, if_pos z] at h
      cases h
      refine ⟨v, ?_, r⟩
      rw [List.getElem?_set_self (by rw [l.len]; exact z)]
    · rw [if_pos rfl, if_neg z] at h
      cases h
  · rw [List.getElem?_set_ne q] at h
    rw [List.getElem?_set_ne q]
    exact l.at_ j e h

/-- the wish behind an expression, told over data -/
def KE (K : PySem.W.Frag) (H G : Hp) (as : List Addr) (Q : VK) (Φ : D → List MO → Prop) : Prop :=
  ∀ v d H' G' as' M', Wld K H' G' as' M' → Ext H G as H' G' as' → R K G' as' v d → Φ d M' → Q v H'
def KB (K : PySem.W.Frag) (H G : Hp) (as : List Addr) (Q : Bool → Hp → Prop) (Φ : Bool → List MO → Prop) : Prop :=
  ∀ b H' G' as' M', Wld K H' G' as' M' → Ext H G as H' G' as' → Φ b M' → Q b H'
def KA (K : PySem.W.Frag) (H G : Hp) (as : List Addr) (Q : List V → Hp → Prop) (Φ : List D → List MO → Prop) : Prop :=
  ∀ vs ds H' G' as' M', Wld K H' G' as' M' → Ext H G as H' G' as' → RA K G' as' vs ds → Φ ds M' → Q vs H'
/-- an exception's fields -/
def XD (K : PySem.W.Frag) (H G : Hp) (as : List Addr) : Option Addr → List (Str × D) → Prop
  | none, fs => fs = []
  | some d, fs => ∃ vs, H d = some (.xd vs) ∧ d ∉ as ∧ RF K G as vs fs
abbrev XW := Addr → List (Str × D) → List (Option D) → List MO → Prop
def KX (K : PySem.W.Frag) (H G : Hp) (as : List Addr) (W : WX) (Ξ : XW) : Prop :=
  ∀ C od fs σ' es' H' G' as' M', Wld K H' G' as' M' → Ext H G as H' G' as' → LR K G' as' σ' es' → XD K H' G' as' od fs → Ξ C fs es' M' → W (.ref C) od σ' H'
theorem KX.ext {W : WX} {Ξ : XW} (k : KX K H G as W Ξ) (x : Ext H G as H' G' as') : KX K H' G' as' W Ξ :=
  fun C od fs σ' es' H2 G2 a2 M2 w y l d p => k C od fs σ' es' H2 G2 a2 M2 w (x.trans y) l d p
theorem kx_none {W : WX} : KX K H G as W fun _ _ _ _ => False := fun _ _ _ _ _ _ _ _ _ _ _ _ _ p => p.elim
theorem KE.ext {Q : VK} {Φ : D → List MO → Prop} (k : KE K H G as Q Φ) (x : Ext H G as H' G' as') : KE K H' G' as' Q Φ :=
  fun v d H2 G2 a2 M2 w y r p => k v d H2 G2 a2 M2 w (x.trans y) r p
theorem KB.ext {Q : Bool → Hp → Prop} {Φ : Bool → List MO → Prop} (k : KB K H G as Q Φ) (x : Ext H G as H' G' as') : KB K H' G' as' Q Φ :=
  fun v H2 G2 a2 M2 w y p => k v H2 G2 a2 M2 w (x.trans y) p
theorem KA.ext {Q : List V → Hp → Prop} {Φ : List D → List MO → Prop} (k : KA K H G as Q Φ) (x : Ext H G as H' G' as') : KA K H' G' as' Q Φ :=
  fun v d H2 G2 a2 M2 w y r p => k v d H2 G2 a2 M2 w (x.trans y) r p
end

/-! ### what is behind a statement -/
structure Ed where
  nx : List (Option D) → List MO → Prop
  rt : D → List MO → Prop
  bk : List (Option D) → List MO → Prop := fun _ _ => False
  ct : List (Option D) → List MO → Prop := fun _ _ => False
def KS (K : PySem.W.Frag) (H G : Hp) (as : List Addr) (Q : St → Hp → Prop) (Φ : List (Option D) → List MO → Prop) : Prop :=
  ∀ σ' es' H' G' as' M', Wld K H' G' as' M' → Ext H G as H' G' as' → LR K G' as' σ' es' → Φ es' M' → Q σ' H'
theorem KS.ext {K : PySem.W.Frag} {H G H' G' : Hp} {as as' : List Addr} {Q : St → Hp → Prop} {Φ : List (Option D) → List MO → Prop} (k : KS K H G as Q Φ) (x : Ext H G as H' G' as') : KS K H' G' as' Q Φ :=
  fun v d H2 G2 a2 M2 w y r p => k v d H2 G2 a2 M2 w (x.trans y) r p
structure KD (K : PySem.W.Frag) (H G : Hp) (as : List Addr) (Dn : Ends) (N : Ed) : Prop where
  nx : KS K H G as Dn.nx N.nx
  rt : KE K H G as Dn.rt N.rt
  bk : KS K H G as Dn.bk N.bk
  ct : KS K H G as Dn.ct N.ct
theorem KD.ext {K : PySem.W.Frag} {H G H' G' : Hp} {as as' : List Addr} {Dn : Ends} {N : Ed} (k : KD K H G as Dn N) (x : Ext H G as H' G' as') : KD K H' G' as' Dn N := ⟨k.nx.ext x, k.rt.ext x, k.bk.ext x, k.ct.ext x⟩

/-! ### the judgements over data -/
section
variable (K : PySem.W.Frag) (W : WX) (Ξ : XW)
def XE (te : TE) (es : List (Option D)) (M : List MO) (Φ : D → List MO → Prop) : Prop :=
  ∀ H G as σ, Wld K H G as M → LR K G as σ es → KX K H G as W Ξ → ∀ Q : VK, KE K H G as Q Φ → te σ H Q
def XT (te : TT) (es : List (Option D)) (M : List MO) (Φ : Bool → List MO → Prop) : Prop :=
  ∀ H G as σ, Wld K H G as M → LR K G as σ es → KX K H G as W Ξ → ∀ Q : Bool → Hp → Prop, KB K H G as Q Φ → te σ H Q
def XA (te : TA) (es : List (Option D)) (M : List MO) (Φ : List D → List MO → Prop) : Prop :=
  ∀ H G as σ, Wld K H G as M → LR K G as σ es → KX K H G as W Ξ → ∀ Q : List V → Hp → Prop, KA K H G as Q Φ → te σ H Q
/-- an operator by values; a one-place one; a call; a method of a built-in type's instance -/
def XO (r : R2) (x y : D) (M : List MO) (Φ : D → List MO → Prop) : Prop :=
  ∀ H G as u v, Wld K H G as M → R K G as u x → R K G as v y → ∀ Q : VK, KE K H G as Q Φ → r u v H Q
def XU (r : V → Hp → VK → Prop) (x : D) (M : List MO) (Φ : D → List MO → Prop) : Prop :=
  ∀ H G as u, Wld K H G as M → R K G as u x → ∀ Q : VK, KE K H G as Q Φ → r u H Q
def XC (r : List V → Hp → VK → Prop) (xs : List D) (M : List MO) (Φ : D → List MO → Prop) : Prop :=
  ∀ H G as us, Wld K H G as M → RA K G as us xs → ∀ Q : VK, KE K H G as Q Φ → r us H Q
def XM (r : V → List V → Hp → VK → Prop) (x : D) (xs : List D) (M : List MO) (Φ : D → List MO → Prop) : Prop :=
  ∀ H G as u us, Wld K H G as M → R K G as u x → RA K G as us xs → ∀ Q : VK, KE K H G as Q Φ → r u us H Q
/-- a target -/
def XG (g : TG) (x : D) (es : List (Option D)) (M : List MO) (Φ : List (Option D) → List MO → Prop) : Prop :=
  ∀ H G as σ v, Wld K H G as M → LR K G as σ es → KX K H G as W Ξ → R K G as v x → ∀ Q : St → Hp → Prop, KS K H G as Q Φ → g v σ H Q
def SD (t : TS) (es : List (Option D)) (M : List MO) (N : Ed) : Prop :=
  ∀ H G as σ, Wld K H G as M → LR K G as σ es → KX K H G as W Ξ → ∀ Dn : Ends, KD K H G as Dn N → t Dn σ H
end

section
variable {K : PySem.W.Frag} {W : WX} {Ξ : XW} {te ta tb tc : TE} {t u : TT} {tr : TA} {es : List (Option D)} {M : List MO} {Φ : D → List MO → Prop} {Ψ : Bool → List MO → Prop} {Θ : List D → List MO → Prop}
theorem XE.imp {Φ' : D → List MO → Prop} (h : XE K W Ξ te es M Φ) (k : ∀ d M', Φ d M' → Φ' d M') : XE K W Ξ te es M Φ' :=
  fun H G as σ w l z Q q => h H G as σ w l z Q fun v d H' G' as' M' w' x r p => q v d H' G' as' M' w' x r (k _ _ p)
theorem XT.imp {Φ' : Bool → List MO → Prop} (h : XT K W Ξ t es M Ψ) (k : ∀ d M', Ψ d M' → Φ' d M') : XT K W Ξ t es M Φ' :=
  fun H G as σ w l z Q q => h H G as σ w l z Q fun d H' G' as' M' w' x p => q d H' G' as' M' w' x (k _ _ p)
theorem xe_var {i : Nat} {d : D} (h : es[i]? = some (some d)) (k : Φ d M) : XE K W Ξ (tVar i) es M Φ := fun H G as σ w l z Q q => by
  obtain ⟨v, e, r⟩ := l.at_ i d h
  exact ⟨v, e, q v d H G as M w (Ext.refl _ _ _) r k⟩
theorem xe_c {v : V} {d : D} (h : ∀ G as, R K G as v d) (k : Φ d M) : XE K W Ξ (tC v) es M Φ := fun H G as σ w _ z Q q => q v d H G as M w (Ext.refl _ _ _) (h G as) k
theorem xe_int {i : Int} (k : Φ (.int i) M) : XE K W Ξ (tC (.int i)) es M Φ := xe_c (fun _ _ => .int i) k
theorem xe_str {x : Str} (k : Φ (.str x) M) : XE K W Ξ (tC (.str x)) es M Φ := xe_c (fun _ _ => .str x) k
theorem xe_bl {b : Bool} (k : Φ (.bl b) M) : XE K W Ξ (tC (.bl b)) es M Φ := xe_c (fun _ _ => .bl b) k
theorem xe_non (k : Φ .non M) : XE K W Ξ (tC .non) es M Φ := xe_c (fun _ _ => .non) k
theorem xe_op {r : R2} (h : XE K W Ξ ta es M fun x M1 => XE K W Ξ tb es M1 fun y M2 => XO K r x y M2 Φ) : XE K W Ξ (tOp r ta tb) es M Φ := fun H G as σ w l z Q q => by
  refine h H G as σ w l z _ fun v d H1 G1 a1 M1 w1 x1 r1 p1 => ?_
  refine p1 H1 G1 a1 σ w1 (l.ext x1) (z.ext x1) _ fun v2 d2 H2 G2 a2 M2 w2 x2 r2 p2 => ?_
  exact p2 H2 G2 a2 v v2 w2 (r1.ext x2) r2 Q ((q.ext x1).ext x2)
theorem xe_un {r : V → Hp → VK → Prop} (h : XE K W Ξ ta es M fun x M1 => XU K r x M1 Φ) : XE K W Ξ (tUn r ta) es M Φ := fun H G as σ w l z Q q => by
  refine h H G as σ w l z _ fun v d H1 G1 a1 M1 w1 x1 r1 p1 => ?_
  exact p1 H1 G1 a1 v w1 r1 Q (q.ext x1)
theorem xe_cb {r : List V → Hp → VK → Prop} (h : XA K W Ξ tr es M fun xs M1 => XC K r xs M1 Φ) : XE K W Ξ (tCB r tr) es M Φ := fun H G as σ w l z Q q => by
  refine h H G as σ w l z _ fun v d H1 G1 a1 M1 w1 x1 r1 p1 => ?_
  exact p1 H1 G1 a1 v w1 r1 Q (q.ext x1)
theorem xa_nil (k : Θ [] M) : XA K W Ξ tNil es M Θ := fun H G as σ w l z Q q => q [] [] H G as M w (Ext.refl _ _ _) .nil k
theorem xa_cons (h : XE K W Ξ te es M fun x M1 => XA K W Ξ tr es M1 fun xs M2 => Θ (x :: xs) M2) : XA K W Ξ (tCons te tr) es M Θ := fun H G as σ w l z Q q => by
  refine h H G as σ w l z _ fun v d H1 G1 a1 M1 w1 x1 r1 p1 => ?_
  refine p1 H1 G1 a1 σ w1 (l.ext x1) (z.ext x1) _ fun v2 d2 H2 G2 a2 M2 w2 x2 r2 p2 => ?_
  exact q _ _ H2 G2 a2 M2 w2 (x1.trans x2) (.cons (r1.ext x2) r2) p2
/-! tests -/
theorem xt_test (h : XE K W Ξ te es M fun x M1 => ∃ b, x = .bl b ∧ Ψ b M1) : XT K W Ξ (tTest te) es M Ψ := fun H G as σ w l z Q q => by
  refine h H G as σ w l z _ fun v d H1 G1 a1 M1 w1 x1 r1 p1 => ?_
  obtain ⟨b, rfl, p1⟩ := p1
  cases r1
  exact ⟨b, rfl, q b H1 G1 a1 M1 w1 x1 p1⟩
theorem xt_B (h : XE K W Ξ te es M fun x M1 => ∃ b, x = .bl b ∧ Ψ b M1) : XT K W Ξ (tB te) es M Ψ := xt_test h
theorem xt_and (h : XT K W Ξ t es M fun b M1 => if b = true then XT K W Ξ u es M1 Ψ else Ψ false M1) : XT K W Ξ (tAnd t u) es M Ψ := fun H G as σ w l z Q q => by
  refine h H G as σ w l z _ fun b H1 G1 a1 M1 w1 x1 p1 => ?_
  cases b with
  | true => exact p1 H1 G1 a1 σ w1 (l.ext x1) (z.ext x1) Q (q.ext x1)
  | false => exact q false H1 G1 a1 M1 w1 x1 p1
theorem xt_or (h : XT K W Ξ t es M fun b M1 => if b = true then Ψ true M1 else XT K W Ξ u es M1 Ψ) : XT K W Ξ (tOr t u) es M Ψ := fun H G as σ w l z Q q => by
  refine h H G as σ w l z _ fun b H1 G1 a1 M1 w1 x1 p1 => ?_
  cases b with
  | true => exact q true H1 G1 a1 M1 w1 x1 p1
  | false => exact p1 H1 G1 a1 σ w1 (l.ext x1) (z.ext x1) Q (q.ext x1)
theorem xt_not (h : XT K W Ξ t es M fun b M1 => Ψ (!b) M1) : XT K W Ξ (tNot t) es M Ψ := fun H G as σ w l z Q q => by
  refine h H G as σ w l z _ fun b H1 G1 a1 M1 w1 x1 p1 => ?_
  exact q (!b) H1 G1 a1 M1 w1 x1 p1
theorem xe_if (h : XT K W Ξ t es M fun b M1 => if b = true then XE K W Ξ ta es M1 Φ else XE K W Ξ tb es M1 Φ) : XE K W Ξ (tIf t ta tb) es M Φ := fun H G as σ w l z Q q => by
  refine h H G as σ w l z _ fun b H1 G1 a1 M1 w1 x1 p1 => ?_
  cases b with
  | true => exact p1 H1 G1 a1 σ w1 (l.ext x1) (z.ext x1) Q (q.ext x1)
  | false => exact p1 H1 G1 a1 σ w1 (l.ext x1) (z.ext x1) Q (q.ext x1)
theorem xe_andV (h : XE K W Ξ ta es M fun x M1 => ∃ b, x = .bl b ∧ if b = true then XE K W Ξ tb es M1 Φ else Φ (.bl false) M1) : XE K W Ξ (tAndV ta tb) es M Φ := fun H G as σ w l z Q q => by
  refine h H G as σ w l z _ fun v d H1 G1 a1 M1 w1 x1 r1 p1 => ?_
  obtain ⟨b, rfl, p1⟩ := p1
  cases r1
  refine ⟨b, rfl, ?_⟩
  cases b with
  | true => exact p1 H1 G1 a1 σ w1 (l.ext x1) (z.ext x1) Q (q.ext x1)
  | false => exact q _ _ H1 G1 a1 M1 w1 x1 (.bl _) p1
theorem xe_orV (h : XE K W Ξ ta es M fun x M1 => ∃ b, x = .bl b ∧ if b = true then Φ (.bl true) M1 else XE K W Ξ tb es M1 Φ) : XE K W Ξ (tOrV ta tb) es M Φ := fun H G as σ w l z Q q => by
  refine h H G as σ w l z _ fun v d H1 G1 a1 M1 w1 x1 r1 p1 => ?_
  obtain ⟨b, rfl, p1⟩ := p1
  cases r1
  refine ⟨b, rfl, ?_⟩
  cases b with
  | true => exact q _ _ H1 G1 a1 M1 w1 x1 (.bl _) p1
  | false => exact p1 H1 G1 a1 σ w1 (l.ext x1) (z.ext x1) Q (q.ext x1)
theorem xe_notV (h : XE K W Ξ ta es M fun x M1 => ∃ b, x = .bl b ∧ Φ (.bl (!b)) M1) : XE K W Ξ (tNotV ta) es M Φ := fun H G as σ w l z Q q => by
  refine h H G as σ w l z _ fun v d H1 G1 a1 M1 w1 x1 r1 p1 => ?_
  obtain ⟨b, rfl, p1⟩ := p1
  cases r1
  exact ⟨b, rfl, q _ _ H1 G1 a1 M1 w1 x1 (.bl _) p1⟩
end

/-! ### operators over data -/
section
variable {K : PySem.W.Frag} {M : List MO} {Φ : D → List MO → Prop}
theorem xo_i {f : Int → Int → Int} {i j : Int} (k : Φ (.int (f i j)) M) : XO K (rI0 fun i j => .int (f i j)) (.int i) (.int j) M Φ := fun H G as u v w ru rv Q q => by
  cases ru
  cases rv
  exact ⟨i, j, rfl, rfl, q _ _ H G as M w (Ext.refl _ _ _) (.int _) k⟩
theorem xo_b {f : Int → Int → Bool} {i j : Int} (k : Φ (.bl (f i j)) M) : XO K (rI0 fun i j => .bl (f i j)) (.int i) (.int j) M Φ := fun H G as u v w ru rv Q q => by
  cases ru
  cases rv
  exact ⟨i, j, rfl, rfl, q _ _ H G as M w (Ext.refl _ _ _) (.bl _) k⟩
theorem xo_ic {C : Int → Int → Prop} {f : Int → Int → Int} {i j : Int} (c : C i j) (k : Φ (.int (f i j)) M) : XO K (rI C fun i j => .int (f i j)) (.int i) (.int j) M Φ := fun H G as u v w ru rv Q q => by
  cases ru
  cases rv
  exact ⟨i, j, rfl, rfl, c, q _ _ H G as M w (Ext.refl _ _ _) (.int _) k⟩
theorem xu_i {f : Int → Int} {i : Int} (k : Φ (.int (f i)) M) : XU K (rU fun i => .int (f i)) (.int i) M Φ := fun H G as u w ru Q q => by
  cases ru
  exact ⟨i, rfl, q _ _ H G as M w (Ext.refl _ _ _) (.int _) k⟩
end

/-! ### statements -/
section
variable {K : PySem.W.Frag} {W : WX} {Ξ : XW} {te ta tb tc : TE} {c : TT} {t u : TS} {tr : TA} {g : TG} {es : List (Option D)} {M : List MO} {N : Ed} {Φ : List (Option D) → List MO → Prop}
theorem SD.imp {N' : Ed} (h : SD K W Ξ t es M N) (h1 : ∀ e m, N.nx e m → N'.nx e m) (h2 : ∀ d m, N.rt d m → N'.rt d m) (h3 : ∀ e m, N.bk e m → N'.bk e m) (h4 : ∀ e m, N.ct e m → N'.ct e m) : SD K W Ξ t es M N' :=
  fun H G as σ w l z Dn k => h H G as σ w l z Dn ⟨fun a b c d e f i j k' l' => k.nx a b c d e f i j k' (h1 _ _ l'), fun a b c d e f i j k' l' => k.rt a b c d e f i j k' (h2 _ _ l'), fun a b c d e f i j k' l' => k.bk a b c d e f i j k' (h3 _ _ l'), fun a b c d e f i j k' l' => k.ct a b c d e f i j k' (h4 _ _ l')⟩
theorem sd_seq (h : SD K W Ξ t es M { N with nx := fun e m => SD K W Ξ u e m N }) : SD K W Ξ (tSeq t u) es M N := fun H G as σ w l z Dn k => by
  refine h H G as σ w l z { Dn with nx := u Dn } ⟨fun σ' es' H' G' as' M' w' x l' p => ?_, k.rt, k.bk, k.ct⟩
  exact p H' G' as' σ' w' l' (z.ext x) Dn (k.ext x)
theorem sd_next (h : N.nx es M) : SD K W Ξ tNext es M N := fun H G as σ w l z Dn k => k.nx σ es H G as M w (Ext.refl _ _ _) l h
theorem sd_brk (h : N.bk es M) : SD K W Ξ tBreak es M N := fun H G as σ w l z Dn k => k.bk σ es H G as M w (Ext.refl _ _ _) l h
theorem sd_cont (h : N.ct es M) : SD K W Ξ tCont es M N := fun H G as σ w l z Dn k => k.ct σ es H G as M w (Ext.refl _ _ _) l h
theorem sd_drop (h : XE K W Ξ te es M fun _ M1 => N.nx es M1) : SD K W Ξ (tDrop te) es M N := fun H G as σ w l z Dn k => by
  refine h H G as σ w l z _ fun v d H1 G1 a1 M1 w1 x1 r1 p1 => ?_
  exact k.nx σ es H1 G1 a1 M1 w1 x1 (l.ext x1) p1
theorem sd_ret (h : XE K W Ξ te es M N.rt) : SD K W Ξ (tRet te) es M N := fun H G as σ w l z Dn k => h H G as σ w l z _ k.rt
theorem sd_retN (h : N.rt .non M) : SD K W Ξ tRetN es M N := fun H G as σ w l z Dn k => k.rt .non .non H G as M w (Ext.refl _ _ _) .non h
theorem sd_if (h : XT K W Ξ c es M fun b M1 => if b = true then SD K W Ξ t es M1 N else SD K W Ξ u es M1 N) : SD K W Ξ (tIfS c t u) es M N := fun H G as σ w l z Dn k => by
  refine h H G as σ w l z _ fun b H1 G1 a1 M1 w1 x1 p1 => ?_
  cases b with
  | true => exact p1 H1 G1 a1 σ w1 (l.ext x1) (z.ext x1) Dn (k.ext x1)
  | false => exact p1 H1 G1 a1 σ w1 (l.ext x1) (z.ext x1) Dn (k.ext x1)
theorem xg_name {i : Nat} {x : D} (h : Φ (es.set i (some x)) M) : XG K W Ξ (gName i) x es M Φ := fun H G as σ v w l z r Q q => q _ _ H G as M w (Ext.refl _ _ _) (l.set r) h
theorem sd_asgG (h : XE K W Ξ te es M fun x M1 => XG K W Ξ g x es M1 N.nx) : SD K W Ξ (tAsg te g) es M N := fun H G as σ w l z Dn k => by
  refine h H G as σ w l z _ fun v d H1 G1 a1 M1 w1 x1 r1 p1 => ?_
  exact p1 H1 G1 a1 σ v w1 (l.ext x1) (z.ext x1) r1 Dn.nx (k.nx.ext x1)
theorem sd_asg {i : Nat} (h : XE K W Ξ te es M fun x M1 => N.nx (es.set i (some x)) M1) : SD K W Ξ (tAsg te (gName i)) es M N := sd_asgG (h.imp fun _ _ p => xg_name p)
end
end DL
namespace DL
open PySem L2 StX

/-! ### what may be read -/
def litems (M : List MO) : D → Option (List D)
  | .lst ds => some ds
  | .rol ds => some ds
  | .ptr i => match M[i]? with
    | some (.lst ds) => some ds
    | _ => none
  | _ => none
/-- a tracked list -/
def hitems (M : List MO) : D → Option (List D)
  | .lst ds => some ds
  | .ptr i => match M[i]? with
    | some (.lst ds) => some ds
    | _ => none
  | _ => none
theorem litems_of_h {M : List MO} {x : D} {ds : List D} (h : hitems M x = some ds) : litems M x = some ds := by
  cases x <;> first | exact h | cases h
section
variable {K : PySem.W.Frag} {H G H' G' : Hp} {as as' : List Addr} {M M' : List MO} {x y : D} {v u : V} {ds es : List D}
theorem Wld.ptrAt (w : Wld K H G as M) {i : Nat} {m : MO} {a : Addr} (h : as[i]? = some a) (hm : M[i]? = some m) : MOk K H G as a m := w.obj i a m h hm
theorem Wld.addr (w : Wld K H G as M) {i : Nat} {m : MO} (hm : M[i]? = some m) : ∃ a, as[i]? = some a := by
  have h := (List.getElem?_eq_some_iff.mp hm).1
  rw [← w.len] at h
  exact ⟨as[i], List.getElem?_eq_getElem h⟩
theorem Wld.hL (w : Wld K H G as M) (r : R K G as v x) (h : hitems M x = some ds) : ∃ a vs, v = .ref a ∧ H a = some (.lst vs) ∧ RA K G as vs ds := by
  cases r with
  | lst s q => cases h; exact ⟨_, _, rfl, w.sub _ _ s, q⟩
  | ptr e =>
    rename_i i a
    cases hm : M[i]? with
    | none => simp [hitems, hm] at h
    | some m =>
      cases m with
      | lst ds' =>
        have e2 : some ds' = some ds := by simpa [hitems, hm] using h
        cases e2
        obtain ⟨_, vs, e1, q⟩ := w.ptrAt e hm
        exact ⟨a, vs, rfl, e1, q⟩
      | ins C fs => simp [hitems, hm] at h
      | dk kvs => simp [hitems, hm] at h
      | gone => simp [hitems, hm] at h
  | _ => cases h
theorem Wld.sqL (w : Wld K H G as M) (r : R K G as v x) (h : litems M x = some ds) : ∃ a vs, v = .ref a ∧ SqL K H a vs ∧ RA K G as vs ds := by
  by_cases q : hitems M x = some ds
  · obtain ⟨a, vs, e, h1, h2⟩ := w.hL r q
    exact ⟨a, vs, e, SqL.of h1, h2⟩
  · cases r with
    | lst s z => exact absurd h q
    | rol s z => cases h; exact ⟨_, _, rfl, w.sub.sqL s, z⟩
    | ptr e => exact absurd h q
    | _ => cases h
theorem Wld.sqT (w : Wld K H G as M) (r : R K G as v (.tup ds)) : ∃ a vs, v = .ref a ∧ SqT K H a vs ∧ RA K G as vs ds := by
  cases r with
  | tup s z => exact ⟨_, _, rfl, w.sub.sqT s, z⟩
theorem RA.atI {vs : List V} {i : Int} {d : D} (r : RA K G as vs ds) (h : L2.atI ds i = some d) : ∃ v, L2.atI vs i = some v ∧ R K G as v d := by
  unfold L2.atI at h ⊢
  rw [r.len]
  cases e : ixN ds.length i with
  | none => rw [e] at h; cases h
  | some j =>
    rw [e] at h
    exact r.getD (by simpa using h)

/-! ### new objects, changed objects -/
theorem Wld.noG (w : Wld K H G as M) {p : Addr} (h : H p = none) : G p = none := by
  cases e : G p with
  | none => rfl
  | some o =>
    rw [w.sub p o e] at h
    cases h
theorem MOk.some (m : MO) {a : Addr} (h : MOk K H G as a m) : ∃ o, H a = some o := by
  cases m with
  | lst ds => obtain ⟨_, vs, e, _⟩ := h; exact ⟨_, e⟩
  | ins C fs => obtain ⟨_, dx, vs, e, _⟩ := h; exact ⟨_, e⟩
  | dk kvs => obtain ⟨_, vs, e, _⟩ := h; exact ⟨_, e⟩
  | gone => exact h
theorem Wld.there (w : Wld K H G as M) {a : Addr} (h : a ∈ as) : ∃ o, H a = some o := by
  obtain ⟨i, hi, e⟩ := List.mem_iff_getElem.mp h
  have h1 : as[i]? = some a := by rw [List.getElem?_eq_getElem hi, e]
  have h2 : i < M.length := by rw [← w.len]; exact hi
  exact MOk.some _ (w.obj i a M[i] h1 (List.getElem?_eq_getElem h2))
theorem Wld.fresh (w : Wld K H G as M) {p : Addr} (h : H p = none) : p ∉ as := fun m => by
  obtain ⟨o, e⟩ := w.there m
  rw [h] at e
  cases e
/-- an object that stays as it was -/
theorem MOk.keep {a : Addr} {m : MO} (h : MOk K H G as a m) (hH : H' a = H a) (hG : G a = none → G' a = none) (s : Sub G G') (p : Pre as as') : MOk K H' G' as' a m := by
  cases m with
  | lst ds => obtain ⟨g, vs, e, r⟩ := h; exact ⟨hG g, vs, by rw [hH]; exact e, r.mono s p⟩
  | ins C fs => obtain ⟨g, dx, vs, e, r⟩ := h; exact ⟨hG g, dx, vs, by rw [hH]; exact e, r.mono s p⟩
  | dk kvs => obtain ⟨g, vs, e, r⟩ := h; exact ⟨hG g, vs, by rw [hH]; exact e, r.mono s p⟩
  | gone => obtain ⟨o, e⟩ := h; exact ⟨o, by rw [hH]; exact e⟩
theorem Sub.new {p : Addr} {o : HO} (h : G p = none) : Sub G (upd G p o) := fun a u e => by
  rw [upd_ne (ne_of_none e h)]
  exact e
theorem Wld.newG (w : Wld K H G as M) {p : Addr} {o : HO} (h : H p = none) : Wld K (upd H p o) (upd G p o) as M ∧ Ext H G as (upd H p o) (upd G p o) as := by
  have g := w.noG h
  refine ⟨⟨fun a u e => ?_, w.nd, w.len, fun i a m e1 e2 => ?_⟩, ⟨Sub.new g, Pre.refl _, fun a u e _ => ?_, fun a m n => absurd m n⟩⟩
  · by_cases q : a = p
    · subst q
      rw [upd_same] at e ⊢
      exact e
    · rw [upd_ne q] at e ⊢
      exact w.sub a u e
  · have hp : a ≠ p := fun z => w.fresh h (z ▸ List.mem_of_getElem? e1)
    exact (w.obj i a m e1 e2).keep (upd_ne hp) (fun z => by rw [upd_ne hp]; exact z) (Sub.new g) (Pre.refl _)
  · rw [upd_ne (ne_of_none e h)]
    exact e
/-- a new object that is not looked at -/
theorem Wld.newX (w : Wld K H G as M) {p : Addr} {o : HO} (h : H p = none) : Wld K (upd H p o) G as M ∧ Ext H G as (upd H p o) G as := by
  refine ⟨⟨fun a u e => ?_, w.nd, w.len, fun i a m e1 e2 => ?_⟩, ⟨Sub.refl _, Pre.refl _, fun a u e _ => ?_, fun a m n => absurd m n⟩⟩
  · rw [upd_ne (ne_of_none (w.sub a u e) h)]
    exact w.sub a u e
  · have hp : a ≠ p := fun z => w.fresh h (z ▸ List.mem_of_getElem? e1)
    exact (w.obj i a m e1 e2).keep (upd_ne hp) (fun z => z) (Sub.refl _) (Pre.refl _)
  · rw [upd_ne (ne_of_none e h)]
    exact e
theorem Wld.newM (w : Wld K H G as M) {p : Addr} {o : HO} {m : MO} (h : H p = none) (ok : MOk K (upd H p o) G as p m) : Wld K (upd H p o) G (as ++ [p]) (M ++ [m]) ∧ Ext H G as (upd H p o) G (as ++ [p]) := by
  have hn := w.fresh h
  refine ⟨⟨fun a u e => ?_, ?_, ?_, fun i a m' e1 e2 => ?_⟩, ⟨Sub.refl _, Pre.snoc _ _, fun a u e _ => ?_, fun a hm n => ?_⟩⟩
  · rw [upd_ne (ne_of_none (w.sub a u e) h)]
    exact w.sub a u e
  · rw [List.nodup_append]
    refine ⟨w.nd, by simp, fun a ha b hb z => ?_⟩
    have e : b = p := by simpa using hb
    subst z e
    exact hn ha
  · rw [List.length_append, List.length_append, w.len]
    rfl
  · by_cases q : i < as.length
    · rw [List.getElem?_append_left q] at e1
      rw [List.getElem?_append_left (by rw [← w.len]; exact q)] at e2
      have hp : a ≠ p := fun z => hn (z ▸ List.mem_of_getElem? e1)
      exact (w.obj i a m' e1 e2).keep (upd_ne hp) (fun z => z) (Sub.refl _) (Pre.snoc _ _)
    · have hi : i = as.length := by
        have := (List.getElem?_eq_some_iff.mp e1).1
        rw [List.length_append] at this
        simp at this
        omega
      subst hi
      rw [List.getElem?_append_right (Nat.le_refl _)] at e1
      rw [w.len, List.getElem?_append_right (Nat.le_refl _)] at e2
      simp at e1 e2
      subst e1 e2
      exact ok.keep rfl (fun z => z) (Sub.refl _) (Pre.snoc _ _)
  · rw [upd_ne (ne_of_none e h)]
    exact e
  · rw [List.mem_append] at hm
    rcases hm with hm | hm
    · exact absurd hm n
    · have e : a = p := by simpa using hm
      rw [e]
      exact h
theorem Wld.put (w : Wld K H G as M) {i : Nat} {a : Addr} {o : HO} {m : MO} (e : as[i]? = some a) (g : G a = none) (ok : MOk K (upd H a o) G as a m) : Wld K (upd H a o) G as (M.set i m) ∧ Ext H G as (upd H a o) G as := by
  refine ⟨⟨fun b u q => ?_, w.nd, by rw [List.length_set]; exact w.len, fun j b m' e1 e2 => ?_⟩, ⟨Sub.refl _, Pre.refl _, fun b u q n => ?_, fun b hm n => absurd hm n⟩⟩
  · rw [upd_ne (ne_of_none q g)]
    exact w.sub b u q
  · by_cases z : i = j
    · subst z
      rw [e] at e1
      cases e1
      have hl : i < M.length := by
        rw [← w.len]
        exact (List.getElem?_eq_some_iff.mp e).1
      rw [List.getElem?_set_self hl] at e2
      cases e2
      exact ok
    · rw [List.getElem?_set_ne z] at e2
      have hb : b ≠ a := fun q => by
        subst q
        obtain ⟨h1, h2⟩ := List.getElem?_eq_some_iff.mp e
        obtain ⟨h3, h4⟩ := List.getElem?_eq_some_iff.mp e1
        exact z ((List.getElem_inj w.nd).mp (h2.trans h4.symm))
      exact (w.obj j b m' e1 e2).keep (upd_ne hb) (fun z => z) (Sub.refl _) (Pre.refl _)
  · have hb : b ≠ a := fun q => n (q ▸ List.mem_of_getElem? e)
    rw [upd_ne hb]
    exact q
end

/-! ### displays -/
section
variable {K : PySem.W.Frag} {W : WX} {Ξ : XW} {te ta tb : TE} {tr : TA} {es : List (Option D)} {M : List MO} {Φ : D → List MO → Prop} {Θ : List D → List MO → Prop}
theorem sz_ok {n : Nat} (h : n ≤ 1000000) : n ≤ sizeLine := Nat.le_trans h (by decide)
theorem sz_lt {n : Nat} (h : n < 1000000) : n < sizeLine := Nat.lt_of_lt_of_le h (by decide)
theorem xe_tup (h : XA K W Ξ tr es M fun ds M1 => ds.length ≤ 1000000 ∧ Φ (.tup ds) M1) : XE K W Ξ (tTup tr) es M Φ := fun H G as σ w l z Q q => by
  refine h H G as σ w l z _ fun vs ds H1 G1 a1 M1 w1 x1 r1 p1 => ⟨by rw [r1.len]; exact sz_ok p1.1, fun p hp => ?_⟩
  obtain ⟨w2, x2⟩ := w1.newG (o := .tup vs) hp
  exact q _ _ _ _ _ _ w2 (x1.trans x2) (.tup (SqT.of upd_same) (r1.ext x2)) p1.2
/-- a list that stays as it is -/
theorem xe_lst (h : XA K W Ξ tr es M fun ds M1 => ds.length ≤ 1000000 ∧ Φ (.lst ds) M1) : XE K W Ξ (tLst tr) es M Φ := fun H G as σ w l z Q q => by
  refine h H G as σ w l z _ fun vs ds H1 G1 a1 M1 w1 x1 r1 p1 => ⟨by rw [r1.len]; exact sz_ok p1.1, fun p hp => ?_⟩
  obtain ⟨w2, x2⟩ := w1.newG (o := .lst vs) hp
  exact q _ _ _ _ _ _ w2 (x1.trans x2) (.lst upd_same (r1.ext x2)) p1.2
theorem new_ptr {H G : Hp} {as : List Addr} {p : Addr} (w : Wld K H G as M) : (as ++ [p])[M.length]? = some p := by
  rw [← w.len]
  simp
/-- a list that will change -/
theorem xe_lstM (h : XA K W Ξ tr es M fun ds M1 => ds.length ≤ 1000000 ∧ Φ (.ptr M1.length) (M1 ++ [.lst ds])) : XE K W Ξ (tLst tr) es M Φ := fun H G as σ w l z Q q => by
  refine h H G as σ w l z _ fun vs ds H1 G1 a1 M1 w1 x1 r1 p1 => ⟨by rw [r1.len]; exact sz_ok p1.1, fun p hp => ?_⟩
  obtain ⟨w2, x2⟩ := w1.newM (o := .lst vs) (m := .lst ds) hp ⟨w1.noG hp, vs, upd_same, r1⟩
  exact q _ _ _ _ _ _ w2 (x1.trans x2) (.ptr (new_ptr w1)) p1.2
theorem xa_star (h : XE K W Ξ te es M fun x M1 => ∃ ds, (litems M1 x = some ds ∨ x = .tup ds) ∧ XA K W Ξ tr es M1 fun xs M2 => Θ (ds ++ xs) M2) : XA K W Ξ (tStar K te tr) es M Θ := fun H G as σ w l z Q q => by
  refine h H G as σ w l z _ fun v d H1 G1 a1 M1 w1 x1 r1 p1 => ?_
  obtain ⟨ds, hl, p1⟩ := p1
  have go : ∃ a vs, v = .ref a ∧ (SqT K H1 a vs ∨ SqL K H1 a vs) ∧ RA K G1 a1 vs ds := by
    rcases hl with hl | hl
    · obtain ⟨a, vs, e, s, r⟩ := w1.sqL r1 hl
      exact ⟨a, vs, e, .inr s, r⟩
    · subst hl
      obtain ⟨a, vs, e, s, r⟩ := w1.sqT r1
      exact ⟨a, vs, e, .inl s, r⟩
  obtain ⟨a, vs, e, s, r⟩ := go
  refine ⟨a, vs, e, s, ?_⟩
  refine p1 H1 G1 a1 σ w1 (l.ext x1) (z.ext x1) _ fun v2 d2 H2 G2 a2 M2 w2 x2 r2 p2 => ?_
  exact q _ _ H2 G2 a2 M2 w2 (x1.trans x2) ((r.ext x2).append r2) p2
end

/-! ### subscripts, slices, sums -/
section
variable {K : PySem.W.Frag} {W : WX} {Ξ : XW} {te ta tb : TE} {tr : TA} {x y : D} {ds bs : List D} {es : List (Option D)} {M : List MO} {Φ : D → List MO → Prop}
theorem xo_ixL {i : Int} {d : D} (h : litems M x = some ds) (e : atI ds i = some d) (k : Φ d M) : XO K (rIx K) x (.int i) M Φ := fun H G as u v w ru rv Q q => by
  obtain ⟨a, vs, rfl, s, r⟩ := w.sqL ru h
  obtain ⟨o, e1, r1⟩ := r.atI e
  cases rv
  exact .inl ⟨a, vs, i, o, rfl, rfl, s, e1, q _ _ H G as M w (Ext.refl _ _ _) r1 k⟩
theorem xo_ixT {i : Int} {d : D} (e : atI ds i = some d) (k : Φ d M) : XO K (rIx K) (.tup ds) (.int i) M Φ := fun H G as u v w ru rv Q q => by
  obtain ⟨a, vs, rfl, s, r⟩ := w.sqT ru
  obtain ⟨o, e1, r1⟩ := r.atI e
  cases rv
  exact .inr (.inl ⟨a, vs, i, o, rfl, rfl, s, e1, q _ _ H G as M w (Ext.refl _ _ _) r1 k⟩)
theorem xo_ixS {z : Str} {i : Int} {c : Nat} (hz : z.length ≤ 1000000) (e : atI z.cps.toList i = some c) (k : Φ (.str ⟨#[c]⟩) M) : XO K (rIx K) (.str z) (.int i) M Φ := fun H G as u v w ru rv Q q => by
  cases ru
  cases rv
  exact .inr (.inr ⟨z, i, c, rfl, rfl, sz_ok hz, e, q _ _ H G as M w (Ext.refl _ _ _) (.str _) k⟩)

def XP (K : PySem.W.Frag) (W : WX) (Ξ : XW) (tp : TO) (es : List (Option D)) (M : List MO) (Φ : Option Int → List MO → Prop) : Prop :=
  ∀ H G as σ, Wld K H G as M → LR K G as σ es → KX K H G as W Ξ → ∀ Q : Option Int → Hp → Prop, (∀ o H' G' as' M', Wld K H' G' as' M' → Ext H G as H' G' as' → Φ o M' → Q o H') → tp σ H Q
theorem xp_none {Φ : Option Int → List MO → Prop} (k : Φ none M) : XP K W Ξ tNoPart es M Φ := fun H G as σ w l z Q q => q _ H G as M w (Ext.refl _ _ _) k
theorem xp_some {Φ : Option Int → List MO → Prop} (h : XE K W Ξ te es M fun x M1 => ∃ i, x = .int i ∧ Φ (some i) M1) : XP K W Ξ (tPart te) es M Φ := fun H G as σ w l z Q q => by
  refine h H G as σ w l z _ fun v d H1 G1 a1 M1 w1 x1 r1 p1 => ?_
  obtain ⟨i, rfl, p1⟩ := p1
  cases r1
  exact ⟨i, rfl, q _ H1 G1 a1 M1 w1 x1 p1⟩
def XS (K : PySem.W.Frag) (r : V → Option Int → Option Int → Hp → VK → Prop) (x : D) (lo hi : Option Int) (M : List MO) (Φ : D → List MO → Prop) : Prop :=
  ∀ H G as u, Wld K H G as M → R K G as u x → ∀ Q : VK, KE K H G as Q Φ → r u lo hi H Q
theorem xe_sl {r : V → Option Int → Option Int → Hp → VK → Prop} {tl th : TO} (h : XE K W Ξ te es M fun x M1 => XP K W Ξ tl es M1 fun lo M2 => XP K W Ξ th es M2 fun hi M3 => XS K r x lo hi M3 Φ) : XE K W Ξ (tSl r te tl th) es M Φ := fun H G as σ w l z Q q => by
  refine h H G as σ w l z _ fun v d H1 G1 a1 M1 w1 x1 r1 p1 => ?_
  refine p1 H1 G1 a1 σ w1 (l.ext x1) (z.ext x1) _ fun lo H2 G2 a2 M2 w2 x2 p2 => ?_
  refine p2 H2 G2 a2 σ w2 ((l.ext x1).ext x2) ((z.ext x1).ext x2) _ fun hi H3 G3 a3 M3 w3 x3 p3 => ?_
  exact p3 H3 G3 a3 v w3 ((r1.ext x2).ext x3) Q (((q.ext x1).ext x2).ext x3)
def cutD (xs : List D) (lo hi : Option Int) : List D := (xs.drop (HT.sIx xs.length 0 lo)).take (HT.sIx xs.length xs.length hi - HT.sIx xs.length 0 lo)
theorem RA.cut {G : Hp} {as : List Addr} {vs : List V} (r : RA K G as vs ds) (lo hi : Option Int) : RA K G as (cutV vs lo hi) (cutD ds lo hi) := by
  unfold cutV cutD
  rw [r.len]
  exact (r.drop _).take _
theorem xs_l {lo hi : Option Int} (h : litems M x = some ds) (k : Φ (.lst (cutD ds lo hi)) M) : XS K (rSlL K) x lo hi M Φ := fun H G as u w ru Q q => by
  obtain ⟨a, vs, rfl, s, r⟩ := w.sqL ru h
  refine ⟨a, vs, rfl, s, fun p hp => ?_⟩
  obtain ⟨w2, x2⟩ := w.newG (o := .lst (cutV vs lo hi)) hp
  exact q _ _ _ _ _ _ w2 x2 (.lst upd_same ((r.cut lo hi).ext x2)) k
theorem xs_t {lo hi : Option Int} (k : Φ (.tup (cutD ds lo hi)) M) : XS K (rSlA K) (.tup ds) lo hi M Φ := fun H G as u w ru Q q => by
  obtain ⟨a, vs, rfl, s, r⟩ := w.sqT ru
  refine ⟨a, vs, rfl, s, fun hw => ?_, fun _ p hp => ?_⟩
  · refine q _ _ H G as M w (Ext.refl _ _ _) ru ?_
    have e : cutD ds lo hi = ds := by
      unfold cutD
      rw [r.len] at hw
      rw [hw.1, hw.2]
      simp
    rw [e] at k
    exact k
  · obtain ⟨w2, x2⟩ := w.newG (o := .tup (cutV vs lo hi)) hp
    exact q _ _ _ _ _ _ w2 x2 (.tup (SqT.of upd_same) ((r.cut lo hi).ext x2)) k
theorem xs_s {z : Str} {lo hi : Option Int} (hz : z.length ≤ 1000000) (k : Φ (.str (cutS z lo hi)) M) : XS K rSlS (.str z) lo hi M Φ := fun H G as u w ru Q q => by
  cases ru
  exact ⟨z, rfl, sz_ok hz, q _ _ H G as M w (Ext.refl _ _ _) (.str _) k⟩

/-- +: ints, texts, lists, tuples -/
def rAddU (K : PySem.W.Frag) : R2 := fun x y H Q => (∃ i j, x = .int i ∧ y = .int j ∧ Q (.int (i + j)) H) ∨ (∃ i j, x = .str i ∧ y = .str j ∧ i.length + j.length ≤ sizeLine ∧ Q (.str (i ++ j)) H) ∨ rCat x y H Q ∨ rCatA K x y H Q
theorem op_addU {X : Cx} : OpR X (binaryOp .Add) (rAddU X.K) := op_add.or (op_add_str.or (op_cat.or op_catA))
theorem xo_addI {i j : Int} (k : Φ (.int (i + j)) M) : XO K (rAddU K) (.int i) (.int j) M Φ := fun H G as u v w ru rv Q q => by
  cases ru
  cases rv
  exact .inl ⟨i, j, rfl, rfl, q _ _ H G as M w (Ext.refl _ _ _) (.int _) k⟩
theorem xo_addS {i j : Str} (hz : i.length + j.length ≤ 1000000) (k : Φ (.str (i ++ j)) M) : XO K (rAddU K) (.str i) (.str j) M Φ := fun H G as u v w ru rv Q q => by
  cases ru
  cases rv
  exact .inr (.inl ⟨i, j, rfl, rfl, sz_ok hz, q _ _ H G as M w (Ext.refl _ _ _) (.str _) k⟩)
theorem xo_addL (h1 : hitems M x = some ds) (h2 : hitems M y = some bs) (hz : ds.length + bs.length ≤ 1000000) (k : Φ (.lst (ds ++ bs)) M) : XO K (rAddU K) x y M Φ := fun H G as u v w ru rv Q q => by
  obtain ⟨a, vs, rfl, e1, r1⟩ := w.hL ru h1
  obtain ⟨b, us, rfl, e2, r2⟩ := w.hL rv h2
  refine .inr (.inr (.inl ⟨a, b, vs, us, rfl, rfl, e1, e2, by rw [r1.len, r2.len]; exact sz_ok hz, fun p hp => ?_⟩))
  obtain ⟨w2, x2⟩ := w.newG (o := .lst (vs ++ us)) hp
  exact q _ _ _ _ _ _ w2 x2 (.lst upd_same ((r1.append r2).ext x2)) k
theorem xo_addT (hz : ds.length + bs.length ≤ 1000000) (k : Φ (.tup (ds ++ bs)) M) : XO K (rAddU K) (.tup ds) (.tup bs) M Φ := fun H G as u v w ru rv Q q => by
  obtain ⟨a, vs, rfl, e1, r1⟩ := w.sqT ru
  obtain ⟨b, us, rfl, e2, r2⟩ := w.sqT rv
  refine .inr (.inr (.inr ⟨a, b, vs, us, rfl, rfl, e1, e2, by rw [r1.len, r2.len]; exact sz_ok hz, fun z => ?_, fun _ z => ?_, fun _ _ p hp => ?_⟩))
  · subst z
    cases r1
    exact q _ _ H G as M w (Ext.refl _ _ _) rv k
  · subst z
    cases r2
    rw [List.append_nil] at k
    exact q _ _ H G as M w (Ext.refl _ _ _) ru k
  · obtain ⟨w2, x2⟩ := w.newG (o := .tup (vs ++ us)) hp
    exact q _ _ _ _ _ _ w2 x2 (.tup (SqT.of upd_same) ((r1.append r2).ext x2)) k
end
end DL
namespace DL
open PySem L2 StX

/-! ### == of data -/
mutual
def py : D → Option PyData
  | .non => some .none
  | .bl b => some (.bool b)
  | .int i => some (.int i)
  | .str x => some (.str x)
  | .tup ds => (pys ds).map PyData.tuple
  | .lst ds => (pys ds).map PyData.list
  | .rol ds => (pys ds).map PyData.list
  | _ => none
def pys : List D → Option (List PyData)
  | [] => some []
  | d :: ds => (py d).bind fun p => (pys ds).map fun ps => p :: ps
end
def pyM (M : List MO) : D → Option PyData
  | .ptr i => match M[i]? with
    | some (.lst ds) => (pys ds).map PyData.list
    | _ => none
  | d => py d
section
variable {K : PySem.W.Frag} {H G : Hp} {as : List Addr} {M : List MO}
mutual
theorem R.dp (s : Sub G H) : ∀ {v : V} {d : D} {p : PyData}, R K G as v d → py d = some p → Dp K H v p
  | _, _, _, .non, e => by cases e; exact .non
  | _, _, _, .bl b, e => by cases e; exact .bl b
  | _, _, _, .int b, e => by cases e; exact .int b
  | _, _, _, .str b, e => by cases e; exact .str b
  | _, _, _, .tup (ds := ds) h r, e => by
    unfold py at e
    cases q : pys ds with
    | none => rw [q] at e; cases e
    | some ps => rw [q] at e; cases e; exact .tup (s.sqT h) (RA.dp s r q)
  | _, _, _, .lst (ds := ds) h r, e => by
    unfold py at e
    cases q : pys ds with
    | none => rw [q] at e; cases e
    | some ps => rw [q] at e; cases e; exact .lst (SqL.of (s _ _ h)) (RA.dp s r q)
  | _, _, _, .rol (ds := ds) h r, e => by
    unfold py at e
    cases q : pys ds with
    | none => rw [q] at e; cases e
    | some ps => rw [q] at e; cases e; exact .lst (s.sqL h) (RA.dp s r q)
  | _, _, _, .obj _ _, e => by cases e
  | _, _, _, .dk _ _, e => by cases e
  | _, _, _, .ptr _, e => by cases e
  | _, _, _, .gl _, e => by cases e
  | _, _, _, .ty _, e => by cases e
  | _, _, _, .excN _, e => by cases e
  | _, _, _, .excS _ _, e => by cases e
theorem RA.dp (s : Sub G H) : ∀ {v : List V} {d : List D} {p : List PyData}, RA K G as v d → pys d = some p → DpAll K H v p
  | _, _, _, .nil, e => by cases e; exact .nil
  | _, _, _, .cons (d := d) (ds := ds) a b, e => by
    unfold pys at e
    cases q1 : py d with
    | none => rw [q1] at e; cases e
    | some p =>
      cases q : pys ds with
      | none => rw [q1, q] at e; cases e
      | some ps => rw [q1, q] at e; cases e; exact .cons (R.dp s a q1) (RA.dp s b q)
end
theorem Wld.dp (w : Wld K H G as M) {v : V} {d : D} {p : PyData} (r : R K G as v d) (e : pyM M d = some p) : Dp K H v p := by
  cases d with
  | ptr i =>
    cases r with
    | ptr ea =>
      rename_i a
      cases hm : M[i]? with
      | none => simp [pyM, hm] at e
      | some m =>
        cases m with
        | lst ds =>
          obtain ⟨_, vs, h1, r1⟩ := w.ptrAt ea hm
          have e2 : (pys ds).map PyData.list = some p := by simpa [pyM, hm] using e
          cases q : pys ds with
          | none => rw [q] at e2; cases e2
          | some ps =>
            rw [q] at e2
            cases e2
            exact .lst (SqL.of h1) (RA.dp w.sub r1 q)
        | ins C fs => simp [pyM, hm] at e
        | dk kvs => simp [pyM, hm] at e
        | gone => simp [pyM, hm] at e
  | _ => exact R.dp w.sub r e
end
section
variable {K : PySem.W.Frag} {W : WX} {Ξ : XW} {te ta tb : TE} {tr : TA} {x y : D} {ds bs : List D} {es : List (Option D)} {M : List MO} {Φ : D → List MO → Prop} {p q : PyData}
/-- ==: numbers, texts, data -/
def rEqU (K : PySem.W.Frag) : R2 := fun x y H Q => rEq x y H Q ∨ rEqD K x y H Q
def rNeU (K : PySem.W.Frag) : R2 := fun x y H Q => rNe x y H Q ∨ rNeD K x y H Q
theorem op_eqU {X : Cx} (hu : X.A.units + 64 < cLine) : OpR X (compareOp .Eq) (rEqU X.K) := op_eq.or (op_eqD hu)
theorem op_neU {X : Cx} (hu : X.A.units + 64 < cLine) : OpR X (compareOp .NotEq) (rNeU X.K) := op_ne.or (op_neD hu)
theorem xo_eq (h1 : pyM M x = some p) (h2 : pyM M y = some q) (s1 : SeqAt.shaped p = true) (s2 : SeqAt.shaped q = true) (k : Φ (.bl (PyData.eqv p q)) M) : XO K (rEqU K) x y M Φ := fun H G as u v w ru rv Q qq =>
  .inr ⟨p, q, w.dp ru h1, w.dp rv h2, s1, s2, qq _ _ H G as M w (Ext.refl _ _ _) (.bl _) k⟩
theorem xo_ne (h1 : pyM M x = some p) (h2 : pyM M y = some q) (s1 : SeqAt.shaped p = true) (s2 : SeqAt.shaped q = true) (k : Φ (.bl (!PyData.eqv p q)) M) : XO K (rNeU K) x y M Φ := fun H G as u v w ru rv Q qq =>
  .inr ⟨p, q, w.dp ru h1, w.dp rv h2, s1, s2, qq _ _ H G as M w (Ext.refl _ _ _) (.bl _) k⟩
theorem xo_eqI {i j : Int} (k : Φ (.bl (i == j)) M) : XO K (rEqU K) (.int i) (.int j) M Φ := xo_eq rfl rfl rfl rfl (by rw [PyData.eqv]; exact k)
theorem xo_neI {i j : Int} (k : Φ (.bl (!(i == j))) M) : XO K (rNeU K) (.int i) (.int j) M Φ := xo_ne rfl rfl rfl rfl (by rw [PyData.eqv]; exact k)
theorem xo_eqS {i j : Str} (k : Φ (.bl (i == j)) M) : XO K (rEqU K) (.str i) (.str j) M Φ := fun H G as u v w ru rv Q qq => by
  cases ru
  cases rv
  refine .inl ⟨rfl, ?_⟩
  rw [dec_str]
  exact qq _ _ H G as M w (Ext.refl _ _ _) (.bl _) k
theorem xo_neS {i j : Str} (k : Φ (.bl (!(i == j))) M) : XO K (rNeU K) (.str i) (.str j) M Φ := fun H G as u v w ru rv Q qq => by
  cases ru
  cases rv
  refine .inl ⟨rfl, ?_⟩
  rw [dec_str]
  exact qq _ _ H G as M w (Ext.refl _ _ _) (.bl _) k
theorem xo_eqB {i j : Bool} (k : Φ (.bl (i == j)) M) : XO K (rEqU K) (.bl i) (.bl j) M Φ := xo_eq rfl rfl rfl rfl (by rw [PyData.eqv]; exact k)
theorem xo_neB {i j : Bool} (k : Φ (.bl (!(i == j))) M) : XO K (rNeU K) (.bl i) (.bl j) M Φ := xo_ne rfl rfl rfl rfl (by rw [PyData.eqv]; exact k)

/-! ### is None; lengths -/
def isN : D → Bool
  | .non => true
  | _ => false
theorem R.isN {G : Hp} {as : List Addr} {v : V} {d : D} (r : R K G as v d) : decide (v = .non) = isN d := by
  cases r <;> rfl
def rIsNU : R2 := fun x y H Q => y = .non ∧ Q (.bl (decide (x = .non))) H
def rNotNU : R2 := fun x y H Q => y = .non ∧ Q (.bl (!decide (x = .non))) H
theorem op_isNU {X : Cx} : OpR X (compareOp .Is) rIsNU := op_isN
theorem op_notNU {X : Cx} : OpR X (compareOp .IsNot) rNotNU := op_notN
theorem xo_isN (k : Φ (.bl (isN x)) M) : XO K rIsNU x .non M Φ := fun H G as u v w ru rv Q q => by
  cases rv
  refine ⟨rfl, ?_⟩
  rw [ru.isN]
  exact q _ _ H G as M w (Ext.refl _ _ _) (.bl _) k
theorem xo_notN (k : Φ (.bl (!isN x)) M) : XO K rNotNU x .non M Φ := fun H G as u v w ru rv Q q => by
  cases rv
  refine ⟨rfl, ?_⟩
  rw [ru.isN]
  exact q _ _ H G as M w (Ext.refl _ _ _) (.bl _) k
def rLen (K : PySem.W.Frag) : List V → Hp → VK → Prop := fun xs H Q => ∃ x n, xs = [x] ∧ LenV K x H n ∧ Q (.int n) H
theorem call_lenU {X : Cx} : CallR X (.builtin "len") (rLen X.K) := call_len
theorem RA.one_inv {G : Hp} {as : List Addr} {vs : List V} (r : RA K G as vs [x]) : ∃ v, vs = [v] ∧ R K G as v x := by
  cases r with
  | cons a b =>
    cases b
    exact ⟨_, rfl, a⟩
theorem RA.two_inv {G : Hp} {as : List Addr} {vs : List V} (r : RA K G as vs [x, y]) : ∃ u v, vs = [u, v] ∧ R K G as u x ∧ R K G as v y := by
  cases r with
  | cons a b =>
    obtain ⟨v, rfl, r⟩ := b.one_inv
    exact ⟨_, _, rfl, a, r⟩
theorem xc_lenL (h : litems M x = some ds) (k : Φ (.int ds.length) M) : XC K (rLen K) [x] M Φ := fun H G as us w ru Q q => by
  obtain ⟨v, rfl, r⟩ := ru.one_inv
  obtain ⟨a, vs, rfl, s, r2⟩ := w.sqL r h
  refine ⟨_, vs.length, rfl, .inl ⟨vs, s, rfl⟩, ?_⟩
  rw [r2.len]
  exact q _ _ H G as M w (Ext.refl _ _ _) (.int _) k
theorem xc_lenT (k : Φ (.int ds.length) M) : XC K (rLen K) [.tup ds] M Φ := fun H G as us w ru Q q => by
  obtain ⟨v, rfl, r⟩ := ru.one_inv
  obtain ⟨a, vs, rfl, s, r2⟩ := w.sqT r
  refine ⟨_, vs.length, rfl, .inr ⟨vs, s, rfl⟩, ?_⟩
  rw [r2.len]
  exact q _ _ H G as M w (Ext.refl _ _ _) (.int _) k
theorem xc_lenS {z : Str} (hz : z.length ≤ 1000000) (k : Φ (.int z.length) M) : XC K (rLen K) [.str z] M Φ := fun H G as us w ru Q q => by
  obtain ⟨v, rfl, r⟩ := ru.one_inv
  cases r
  exact ⟨_, z.length, rfl, ⟨sz_ok hz, rfl⟩, q _ _ H G as M w (Ext.refl _ _ _) (.int _) k⟩
def rInt1 : List V → Hp → VK → Prop := fun xs H Q => (∃ i, xs = [.int i] ∧ Q (.int i) H) ∨ ∃ k, xs = [.bl k] ∧ Q (.int (if k then 1 else 0)) H
theorem call_intU {X : Cx} : CallR X (.type "int") rInt1 := call_int1
theorem xc_intI {i : Int} (k : Φ (.int i) M) : XC K rInt1 [.int i] M Φ := fun H G as us w ru Q q => by
  obtain ⟨v, rfl, r⟩ := ru.one_inv
  cases r
  exact .inl ⟨i, rfl, q _ _ H G as M w (Ext.refl _ _ _) (.int _) k⟩
theorem xc_intB {b : Bool} (k : Φ (.int (if b then 1 else 0)) M) : XC K rInt1 [.bl b] M Φ := fun H G as us w ru Q q => by
  obtain ⟨v, rfl, r⟩ := ru.one_inv
  cases r
  exact .inr ⟨b, rfl, q _ _ H G as M w (Ext.refl _ _ _) (.int _) k⟩
def rStrI : List V → Hp → VK → Prop := fun xs H Q => ∃ i, xs = [.int i] ∧ i.natAbs.log2 < 1920 ∧ Q (.str (toString i)) H
theorem call_strU {X : Cx} : CallR X (.type "str") rStrI := call_str_int
theorem xc_str {i : Int} (hz : i.natAbs.log2 < 1920) (k : Φ (.str (toString i)) M) : XC K rStrI [.int i] M Φ := fun H G as us w ru Q q => by
  obtain ⟨v, rfl, r⟩ := ru.one_inv
  cases r
  exact ⟨i, rfl, hz, q _ _ H G as M w (Ext.refl _ _ _) (.str _) k⟩

/-! ### methods of lists -/
/-- the value is of that built-in type -/
def tyD (M : List MO) (T : String) : D → Prop
  | .str _ => T = "str"
  | .int _ => T = "int"
  | .lst _ => T = "list"
  | .rol _ => T = "list"
  | .ptr i => match M[i]? with
    | some (.lst _) => T = "list"
    | some (.dk _) => T = "dict"
    | _ => False
  | _ => False
theorem Wld.tyV {H G : Hp} {as : List Addr} {v : V} {T : String} (w : Wld K H G as M) (r : R K G as v x) (h : tyD M T x) : L2.tyV K T v H := by
  cases r with
  | str z => exact h
  | int i => exact h
  | lst s z => exact .inl ⟨h, _, SqL.of (w.sub _ _ s)⟩
  | rol s z => exact .inl ⟨h, _, w.sub.sqL s⟩
  | ptr e =>
    rename_i i a
    cases hm : M[i]? with
    | none => simp [tyD, hm] at h
    | some m =>
      cases m with
      | lst ds =>
        obtain ⟨_, vs, e1, _⟩ := w.ptrAt e hm
        exact .inl ⟨by simpa [tyD, hm] using h, vs, SqL.of e1⟩
      | dk ds =>
        obtain ⟨_, vs, e1, _⟩ := w.ptrAt e hm
        exact .inr (.inr (.inl ⟨by simpa [tyD, hm] using h, .inl ⟨vs, e1⟩⟩))
      | ins C fs => simp [tyD, hm] at h
      | gone => simp [tyD, hm] at h
  | _ => exact h.elim
theorem xe_bm {r : V → List V → Hp → VK → Prop} {T : String} (h : XE K W Ξ ta es M fun x M1 => tyD M1 T x ∧ XA K W Ξ tr es M1 fun xs M2 => XM K r x xs M2 Φ) : XE K W Ξ (tBM K T r ta tr) es M Φ := fun H G as σ w l z Q q => by
  refine h H G as σ w l z _ fun v d H1 G1 a1 M1 w1 x1 r1 p1 => ⟨w1.tyV r1 p1.1, ?_⟩
  refine p1.2 H1 G1 a1 σ w1 (l.ext x1) (z.ext x1) _ fun vs ds H2 G2 a2 M2 w2 x2 r2 p2 => ?_
  exact p2 H2 G2 a2 v vs w2 (r1.ext x2) r2 Q ((q.ext x1).ext x2)
theorem xe_bm0 {r : V → List V → Hp → VK → Prop} {T : String} (h : XE K W Ξ ta es M fun x M1 => tyD M1 T x ∧ XM K r x [] M1 Φ) : XE K W Ξ (tBM0 K T r ta) es M Φ := fun H G as σ w l z Q q => by
  refine h H G as σ w l z _ fun v d H1 G1 a1 M1 w1 x1 r1 p1 => ⟨w1.tyV r1 p1.1, ?_⟩
  exact p1.2 H1 G1 a1 v [] w1 r1 .nil Q (q.ext x1)
theorem Wld.ptrL {H G : Hp} {as : List Addr} {v : V} {i : Nat} (w : Wld K H G as M) (r : R K G as v (.ptr i)) (h : M[i]? = some (.lst ds)) : ∃ a vs, v = .ref a ∧ as[i]? = some a ∧ G a = none ∧ H a = some (.lst vs) ∧ RA K G as vs ds := by
  cases r with
  | ptr e =>
    obtain ⟨g, vs, e1, r1⟩ := w.ptrAt e h
    exact ⟨_, vs, rfl, e, g, e1, r1⟩
theorem Wld.putL {H G : Hp} {as : List Addr} {i : Nat} {a : Addr} {vs : List V} {bs : List D} (w : Wld K H G as M) (e : as[i]? = some a) (g : G a = none) (r : RA K G as vs bs) :
    Wld K (upd H a (.lst vs)) G as (M.set i (.lst bs)) ∧ Ext H G as (upd H a (.lst vs)) G as := w.put e g ⟨g, vs, upd_same, r⟩
theorem xm_append {i : Nat} (h : M[i]? = some (.lst ds)) (hz : ds.length < 1000000) (k : Φ .non (M.set i (.lst (ds ++ [y])))) : XM K rAppend (.ptr i) [y] M Φ := fun H G as u us w r rs Q q => by
  obtain ⟨a, vs, rfl, e, g, e1, r1⟩ := w.ptrL r h
  obtain ⟨v, rfl, r2⟩ := rs.one_inv
  obtain ⟨w2, x2⟩ := w.putL e g (r1.append (.one r2))
  exact ⟨a, vs, v, rfl, rfl, e1, by rw [r1.len]; exact sz_lt hz, q _ _ _ _ _ _ w2 x2 .non k⟩
theorem xm_extend {i : Nat} (h : M[i]? = some (.lst ds)) (h2 : hitems M y = some bs) (hz : ds.length + bs.length < 1000000) (k : Φ .non (M.set i (.lst (ds ++ bs)))) : XM K rExtend (.ptr i) [y] M Φ := fun H G as u us w r rs Q q => by
  obtain ⟨a, vs, rfl, e, g, e1, r1⟩ := w.ptrL r h
  obtain ⟨v, rfl, r2⟩ := rs.one_inv
  obtain ⟨b, us, rfl, e2, r3⟩ := w.hL r2 h2
  obtain ⟨w2, x2⟩ := w.putL e g (r1.append r3)
  exact ⟨a, b, vs, us, rfl, rfl, e1, e2, by rw [r1.len, r3.len]; exact Nat.le_of_lt (sz_lt hz), q _ _ _ _ _ _ w2 x2 .non k⟩
theorem xm_pop {i : Nat} (h : M[i]? = some (.lst ds)) (hy : ds[ds.length - 1]? = some y) (k : Φ y (M.set i (.lst ds.dropLast))) : XM K rPop (.ptr i) [] M Φ := fun H G as u us w r rs Q q => by
  obtain ⟨a, vs, rfl, e, g, e1, r1⟩ := w.ptrL r h
  cases rs
  obtain ⟨v, e2, r2⟩ := r1.getD hy
  obtain ⟨w2, x2⟩ := w.putL e g r1.dropLast
  exact ⟨a, vs, v, rfl, rfl, e1, by rw [r1.len]; exact e2, q _ _ _ _ _ _ w2 x2 (r2.ext x2) k⟩
/-- xs[j] = v -/
theorem xg_setL {to ti : TE} {Φ' : List (Option D) → List MO → Prop} (h : XE K W Ξ to es M fun x M1 => XE K W Ξ ti es M1 fun j M2 => ∃ i n m ds, x = .ptr i ∧ j = .int n ∧ M2[i]? = some (.lst ds) ∧ ixN ds.length n = some m ∧ Φ' es (M2.set i (.lst (ds.set m y)))) : XG K W Ξ (gSub to ti rSetL) y es M Φ' := fun H G as σ v w l z r Q q => by
  refine h H G as σ w l z _ fun u d H1 G1 a1 M1 w1 x1 r1 p1 => ?_
  refine p1 H1 G1 a1 σ w1 (l.ext x1) (z.ext x1) _ fun u2 d2 H2 G2 a2 M2 w2 x2 r2 p2 => ?_
  obtain ⟨i, n, m, ds, rfl, rfl, hm, hn, p3⟩ := p2
  obtain ⟨a, vs, rfl, e, g, e1, r3⟩ := w2.ptrL (r1.ext x2) hm
  cases r2
  obtain ⟨w3, x3⟩ := w2.putL e g (RA.set ((r.ext x1).ext x2) m r3)
  exact ⟨a, vs, n, m, rfl, rfl, e1, by rw [r3.len]; exact hn, q _ _ _ _ _ _ w3 ((x1.trans x2).trans x3) (((l.ext x1).ext x2).ext x3) p3⟩
end
end DL
namespace DL
open PySem L2 StX

/-! ### objects of own classes -/
def dcls (M : List MO) : D → Option Addr
  | .obj C _ => some C
  | .ptr i => match M[i]? with
    | some (.ins C _) => some C
    | _ => none
  | _ => none
def dflds (M : List MO) : D → List (Str × D)
  | .obj _ fs => fs
  | .ptr i => match M[i]? with
    | some (.ins _ fs) => fs
    | _ => []
  | _ => []
section
variable {K : PySem.W.Frag} {H G : Hp} {as : List Addr} {M : List MO} {x : D} {v : V}
theorem Wld.ins (w : Wld K H G as M) (r : R K G as v x) {C : Addr} (h : dcls M x = some C) : ∃ a dx vs, v = .ref a ∧ H a = some (.ins C dx vs) ∧ RF K G as vs (dflds M x) := by
  cases r with
  | obj e q =>
    cases h
    exact ⟨_, _, _, rfl, w.sub _ _ e, q⟩
  | ptr e =>
    rename_i i a
    cases hm : M[i]? with
    | none => simp [dcls, hm] at h
    | some m =>
      cases m with
      | ins C' fs =>
        have e2 : C' = C := by simpa [dcls, hm] using h
        subst e2
        obtain ⟨_, dx, vs, e1, q⟩ := w.ptrAt e hm
        exact ⟨a, dx, vs, rfl, e1, by simpa [dflds, hm] using q⟩
      | lst ds => simp [dcls, hm] at h
      | dk kvs => simp [dcls, hm] at h
      | gone => simp [dcls, hm] at h
  | _ => cases h
end
section
variable {K : PySem.W.Frag} {W : WX} {Ξ : XW} {te ta tb tv : TE} {tr : TA} {x y : D} {ds bs : List D} {es : List (Option D)} {M : List MO} {Φ : D → List MO → Prop} {N : Ed}
theorem xe_fld {f : Str} (h : XE K W Ξ ta es M fun x M1 => ∃ C d, dcls M1 x = some C ∧ Cls K C ∧ NoAttr K C f ∧ fget f (dflds M1 x) = some d ∧ Φ d M1) : XE K W Ξ (tFld K ta f) es M Φ := fun H G as σ w l z Q q => by
  refine h H G as σ w l z _ fun v d H1 G1 a1 M1 w1 x1 r1 p1 => ?_
  obtain ⟨C, d, hc, c, n, hf, p1⟩ := p1
  obtain ⟨a, dx, vs, rfl, e, rf⟩ := w1.ins r1 hc
  obtain ⟨o, e2, r2⟩ := rf.get hf
  exact ⟨a, C, dx, vs, o, rfl, e, c, n, e2, q _ _ H1 G1 a1 M1 w1 x1 r2 p1⟩
theorem length_fput (f : Str) (y : D) : ∀ fs : List (Str × D), (fput f y fs).length ≤ fs.length + 1
  | [] => Nat.le_refl _
  | (g, d) :: r => by
    unfold fput
    by_cases h : g = f
    · rw [if_pos h]
      simp
    · rw [if_neg h, List.length_cons, List.length_cons]
      have := length_fput f y r
      omega
theorem sd_fld {f : Str} (h : XE K W Ξ tv es M fun y M1 => XE K W Ξ ta es M1 fun x M2 => ∃ i C fs, x = .ptr i ∧ M2[i]? = some (.ins C fs) ∧ Cls K C ∧ NoAttr K C f ∧ fs.length < 1000 ∧ N.nx es (M2.set i (.ins C (fput f y fs)))) : SD K W Ξ (sFld K ta tv f) es M N := fun H G as σ w l z Dn k => by
  refine h H G as σ w l z _ fun v d H1 G1 a1 M1 w1 x1 r1 p1 => ?_
  refine p1 H1 G1 a1 σ w1 (l.ext x1) (z.ext x1) _ fun u d2 H2 G2 a2 M2 w2 x2 r2 p2 => ?_
  obtain ⟨i, C, fs, rfl, hm, c, n, hl, p3⟩ := p2
  cases r2 with
  | ptr e =>
    obtain ⟨g, dx, vs, e1, rf⟩ := w2.ptrAt e hm
    have rf2 := RF.put (f := f) (r1.ext x2) rf
    obtain ⟨w3, x3⟩ := w2.put (o := .ins C dx (putF f v vs)) (m := .ins C (fput f d fs)) e g ⟨g, dx, _, upd_same, rf2⟩
    exact ⟨_, C, dx, vs, rfl, e1, c, n, by rw [rf.len]; exact hl, k.nx _ _ _ _ _ _ w3 ((x1.trans x2).trans x3) (((l.ext x1).ext x2).ext x3) p3⟩

/-! ### what a def promises, over data -/
/-- a promise: the arguments, the store, what is wanted of the answer, of an exception -/
abbrev Pr := List D → List MO → (D → List MO → Prop) → (Addr → List (Str × D) → List MO → Prop) → Prop
def KXE (K : PySem.W.Frag) (H G : Hp) (as : List Addr) (E : XK) (Ψ : Addr → List (Str × D) → List MO → Prop) : Prop :=
  ∀ C od fs H' G' as' M', Wld K H' G' as' M' → Ext H G as H' G' as' → XD K H' G' as' od fs → Ψ C fs M' → E (.ref C) od H'
def FS (K : PySem.W.Frag) (spec : Pr) : Sp := fun vs H Q E => ∃ G as M ds Φ Ψ, Wld K H G as M ∧ RA K G as vs ds ∧ spec ds M Φ Ψ ∧ KE K H G as Q Φ ∧ KXE K H G as E Ψ
/-- a call of a def that lets nothing out -/
theorem xe_call {spec : Pr} {E : XK} (h : XA K W Ξ tr es M fun ds M1 => spec ds M1 Φ fun _ _ _ => False) : XE K W Ξ (tCall (FS K spec) [] E tr) es M Φ := fun H G as σ w l z Q q => by
  refine h H G as σ w l z _ fun vs ds H1 G1 a1 M1 w1 x1 r1 p1 => ?_
  rw [List.append_nil]
  exact ⟨G1, a1, M1, ds, Φ, _, w1, r1, p1, q.ext x1, fun _ _ _ _ _ _ _ _ _ _ p => p.elim⟩
theorem xe_callE {spec : Pr} (h : XA K W Ξ tr es M fun ds M1 => spec ds M1 Φ fun C fs M2 => Ξ C fs es M2) : XE K W Ξ (tCallS (FS K spec) (WE W) tr) es M Φ := fun H G as σ w l z Q q => by
  refine h H G as σ w l z _ fun vs ds H1 G1 a1 M1 w1 x1 r1 p1 => ?_
  exact ⟨G1, a1, M1, ds, Φ, _, w1, r1, p1, q.ext x1, fun C od fs H' G' as' M' w' x' xd p => z C od fs σ es H' G' as' M' w' (x1.trans x') ((l.ext x1).ext x') xd p⟩
theorem xe_meth {spec : Pr} {E : XK} {C : Addr} {m : Str} (h : XE K W Ξ ta es M fun x M1 => dcls M1 x = some C ∧ fget m (dflds M1 x) = none ∧ XA K W Ξ tr es M1 fun ds M2 => spec (x :: ds) M2 Φ fun _ _ _ => False) : XE K W Ξ (tMeth C m (FS K spec) [] E ta tr) es M Φ := fun H G as σ w l z Q q => by
  refine h H G as σ w l z _ fun v d H1 G1 a1 M1 w1 x1 r1 p1 => ?_
  obtain ⟨hc, hf, p1⟩ := p1
  obtain ⟨a, dx, vs, rfl, e, rf⟩ := w1.ins r1 hc
  refine ⟨a, dx, vs, rfl, e, rf.no hf, ?_⟩
  refine p1 H1 G1 a1 σ w1 (l.ext x1) (z.ext x1) _ fun us ds H2 G2 a2 M2 w2 x2 r2 p2 => ?_
  rw [List.append_nil]
  exact ⟨G2, a2, M2, _, Φ, _, w2, .cons (r1.ext x2) r2, p2, (q.ext x1).ext x2, fun _ _ _ _ _ _ _ _ _ _ p => p.elim⟩
theorem Wld.made {H G : Hp} {as : List Addr} {C a dx : Addr} (w : Wld K H G as M) (n1 : H a = none) (n2 : H dx = none) (ne : dx ≠ a) :
    Wld K (upd (upd H dx (.own a)) a (.ins C dx [])) G (as ++ [a]) (M ++ [.ins C []]) ∧ Ext H G as (upd (upd H dx (.own a)) a (.ins C dx [])) G (as ++ [a]) := by
  obtain ⟨w1, x1⟩ := w.newX (o := .own a) n2
  have n3 : upd H dx (.own a) a = none := by rw [upd_ne (Ne.symm ne)]; exact n1
  obtain ⟨w2, x2⟩ := w1.newM (o := .ins C dx []) (m := .ins C []) n3 ⟨w1.noG n3, dx, [], upd_same, .nil⟩
  exact ⟨w2, x1.trans x2⟩
theorem xe_make {spec : Pr} {E : XK} {C : Addr} (h : XA K W Ξ tr es M fun ds M1 => spec (.ptr M1.length :: ds) (M1 ++ [.ins C []]) (fun d M2 => d = .non ∧ Φ (.ptr M1.length) M2) fun _ _ _ => False) : XE K W Ξ (tMake C (FS K spec) [] E tr) es M Φ := fun H G as σ w l z Q q => by
  refine h H G as σ w l z _ fun vs ds H1 G1 a1 M1 w1 x1 r1 p1 => fun a dx n1 n2 ne => ?_
  obtain ⟨w2, x2⟩ := w1.made (C := C) n1 n2 ne
  rw [List.append_nil]
  refine ⟨G1, a1 ++ [a], _, _, _, _, w2, .cons (.ptr (new_ptr w1)) (r1.ext x2), p1, fun v d H3 G3 a3 M3 w3 x3 r3 p3 => ?_, fun _ _ _ _ _ _ _ _ _ _ p => p.elim⟩
  obtain ⟨rfl, p3⟩ := p3
  cases r3
  exact ⟨rfl, q _ _ H3 G3 a3 M3 w3 ((x1.trans x2).trans x3) (R.mono x3.g x3.p (.ptr (new_ptr w1))) p3⟩
end

/-! ### a def keeps its promise -/
def startD (N : List Str) (ds : List D) : List (Option D) := ds.map some ++ List.replicate (N.length - ds.length) none
theorem lr_start {K : PySem.W.Frag} {G : Hp} {as : List Addr} {N : List Str} {vs : List V} {ds : List D} (r : RA K G as vs ds) : LR K G as (L2.start N vs) (startD N ds) := by
  refine ⟨?_, fun i d e => ?_⟩
  · unfold L2.start startD
    rw [List.length_append, List.length_append, List.length_map, List.length_map, List.length_replicate, List.length_replicate, r.len]
  · unfold startD at e
    by_cases h : i < ds.length
    · rw [List.getElem?_append_left (by simpa using h), List.getElem?_map] at e
      cases q : ds[i]? with
      | none => rw [q] at e; cases e
      | some d' =>
        rw [q] at e
        cases e
        obtain ⟨v, e1, r1⟩ := r.getD q
        refine ⟨v, ?_, r1⟩
        unfold L2.start
        rw [List.getElem?_append_left (by rw [List.length_map, r.len]; exact h), List.getElem?_map, e1]
        rfl
    · rw [List.getElem?_append_right (by simpa using h), List.getElem?_replicate] at e
      split at e <;> cases e
mutual
/-- d names no object of the store from number n on -/
def D.lim (n : Nat) : D → Bool
  | .tup ds => D.lims n ds
  | .lst ds => D.lims n ds
  | .rol ds => D.lims n ds
  | .obj _ fs => D.limf n fs
  | .exc _ _ fs => D.limf n fs
  | .dk kvs => D.limk n kvs
  | .ptr i => decide (i < n)
  | _ => true
def D.lims (n : Nat) : List D → Bool
  | [] => true
  | d :: r => D.lim n d && D.lims n r
def D.limf (n : Nat) : List (Str × D) → Bool
  | [] => true
  | (_, d) :: r => D.lim n d && D.limf n r
def D.limk (n : Nat) : List (Key × D) → Bool
  | [] => true
  | (_, d) :: r => D.lim n d && D.limk n r
end
def MO.lim (n : Nat) : MO → Bool
  | .lst ds => D.lims n ds
  | .ins _ fs => D.limf n fs
  | .dk kvs => D.limk n kvs
  | .gone => true
section
variable {K : PySem.W.Frag} {H G : Hp} {as : List Addr} {M : List MO} {n : Nat}
theorem b2 {a b : Bool} (h : (a && b) = true) : a = true ∧ b = true := Bool.and_eq_true_iff.mp h
mutual
theorem R.cut : ∀ {v : V} {d : D}, R K G as v d → D.lim n d = true → R K G (as.take n) v d
  | _, _, .non, _ => .non
  | _, _, .bl b, _ => .bl b
  | _, _, .int i, _ => .int i
  | _, _, .str x, _ => .str x
  | _, _, .tup s r, e => .tup s (RA.cutN r (by unfold D.lim at e; exact e))
  | _, _, .lst s r, e => .lst s (RA.cutN r (by unfold D.lim at e; exact e))
  | _, _, .rol s r, e => .rol s (RA.cutN r (by unfold D.lim at e; exact e))
  | _, _, .obj s r, e => .obj s (RF.cut r (by unfold D.lim at e; exact e))
  | _, _, .dk s r, e => .dk s (RK.cut r (by unfold D.lim at e; exact e))
  | _, _, .ptr (i := i) h, e => .ptr (by
      have q : i < n := by unfold D.lim at e; exact of_decide_eq_true e
      rw [List.getElem?_take_of_lt q]
      exact h)
  | _, _, .gl a, _ => .gl a
  | _, _, .ty n, _ => .ty n
  | _, _, .excN a, _ => .excN a
  | _, _, .excS s r, e => .excS s (RF.cut r (by unfold D.lim at e; exact e))
theorem RA.cutN : ∀ {v : List V} {d : List D}, RA K G as v d → D.lims n d = true → RA K G (as.take n) v d
  | _, _, .nil, _ => .nil
  | _, _, .cons a b, e => by unfold D.lims at e; exact .cons (R.cut a (b2 e).1) (RA.cutN b (b2 e).2)
theorem RF.cut : ∀ {v : List (Str × V)} {d : List (Str × D)}, RF K G as v d → D.limf n d = true → RF K G (as.take n) v d
  | _, _, .nil, _ => .nil
  | _, _, .cons a b, e => by unfold D.limf at e; exact .cons (R.cut a (b2 e).1) (RF.cut b (b2 e).2)
theorem RK.cut : ∀ {v : List (Key × V)} {d : List (Key × D)}, RK K G as v d → D.limk n d = true → RK K G (as.take n) v d
  | _, _, .nil, _ => .nil
  | _, _, .cons a b, e => by unfold D.limk at e; exact .cons (R.cut a (b2 e).1) (RK.cut b (b2 e).2)
end
mutual
theorem R.lim : ∀ {v : V} {d : D}, R K G as v d → D.lim as.length d = true
  | _, _, .non => rfl
  | _, _, .bl b => rfl
  | _, _, .int i => rfl
  | _, _, .str x => rfl
  | _, _, .tup s r => by unfold D.lim; exact RA.lim r
  | _, _, .lst s r => by unfold D.lim; exact RA.lim r
  | _, _, .rol s r => by unfold D.lim; exact RA.lim r
  | _, _, .obj s r => by unfold D.lim; exact RF.lim r
  | _, _, .dk s r => by unfold D.lim; exact RK.lim r
  | _, _, .ptr h => by unfold D.lim; exact decide_eq_true (List.getElem?_eq_some_iff.mp h).1
  | _, _, .gl a => rfl
  | _, _, .ty n => rfl
  | _, _, .excN a => rfl
  | _, _, .excS s r => by unfold D.lim; exact RF.lim r
theorem RA.lim : ∀ {v : List V} {d : List D}, RA K G as v d → D.lims as.length d = true
  | _, _, .nil => rfl
  | _, _, .cons a b => by unfold D.lims; rw [R.lim a, RA.lim b]; rfl
theorem RF.lim : ∀ {v : List (Str × V)} {d : List (Str × D)}, RF K G as v d → D.limf as.length d = true
  | _, _, .nil => rfl
  | _, _, .cons a b => by unfold D.limf; rw [R.lim a, RF.lim b]; rfl
theorem RK.lim : ∀ {v : List (Key × V)} {d : List (Key × D)}, RK K G as v d → D.limk as.length d = true
  | _, _, .nil => rfl
  | _, _, .cons a b => by unfold D.limk; rw [R.lim a, RK.lim b]; rfl
end
mutual
theorem D.lim_mono {n m : Nat} (h : n ≤ m) : ∀ d : D, D.lim n d = true → D.lim m d = true
  | .non, _ => rfl
  | .bl _, _ => rfl
  | .int _, _ => rfl
  | .str _, _ => rfl
  | .gl _, _ => rfl
  | .ty _, _ => rfl
  | .exc _ _ fs, e => by unfold D.lim at e ⊢; exact D.limf_mono h fs e
  | .tup ds, e => by unfold D.lim at e ⊢; exact D.lims_mono h ds e
  | .lst ds, e => by unfold D.lim at e ⊢; exact D.lims_mono h ds e
  | .rol ds, e => by unfold D.lim at e ⊢; exact D.lims_mono h ds e
  | .obj _ fs, e => by unfold D.lim at e ⊢; exact D.limf_mono h fs e
  | .dk fs, e => by unfold D.lim at e ⊢; exact D.limk_mono h fs e
  | .ptr i, e => by unfold D.lim at e ⊢; exact decide_eq_true (Nat.lt_of_lt_of_le (of_decide_eq_true e) h)
theorem D.lims_mono {n m : Nat} (h : n ≤ m) : ∀ d : List D, D.lims n d = true → D.lims m d = true
  | [], _ => rfl
  | d :: r, e => by unfold D.lims at e ⊢; rw [D.lim_mono h d (b2 e).1, D.lims_mono h r (b2 e).2]; rfl
theorem D.limf_mono {n m : Nat} (h : n ≤ m) : ∀ d : List (Str × D), D.limf n d = true → D.limf m d = true
  | [], _ => rfl
  | (_, d) :: r, e => by unfold D.limf at e ⊢; rw [D.lim_mono h d (b2 e).1, D.limf_mono h r (b2 e).2]; rfl
theorem D.limk_mono {n m : Nat} (h : n ≤ m) : ∀ d : List (Key × D), D.limk n d = true → D.limk m d = true
  | [], _ => rfl
  | (_, d) :: r, e => by unfold D.limk at e ⊢; rw [D.lim_mono h d (b2 e).1, D.limk_mono h r (b2 e).2]; rfl
end
theorem MO.lim_mono {n m : Nat} (h : n ≤ m) : ∀ x : MO, MO.lim n x = true → MO.lim m x = true
  | .lst ds, e => D.lims_mono h ds e
  | .ins _ fs, e => D.limf_mono h fs e
  | .dk kvs, e => D.limk_mono h kvs e
  | .gone, _ => rfl
theorem Wld.lim (w : Wld K H G as M) {i : Nat} {m : MO} (h : M[i]? = some m) : MO.lim M.length m = true := by
  obtain ⟨a, ha⟩ := w.addr h
  have q := w.ptrAt ha h
  rw [← w.len]
  cases m with
  | lst ds => obtain ⟨g, vs, e, r⟩ := q; exact r.lim
  | ins C fs => obtain ⟨g, dx, vs, e, r⟩ := q; exact r.lim
  | dk kvs => obtain ⟨g, vs, e, r⟩ := q; exact r.lim
  | gone => rfl
/-- the store without its end -/
theorem Wld.cut {J : List MO} (w : Wld K H G as (M ++ J)) (h : ∀ (i : Nat) m, M[i]? = some m → MO.lim M.length m = true) : Wld K H G (as.take M.length) M := by
  have hl : M.length ≤ as.length := by rw [w.len, List.length_append]; omega
  refine ⟨w.sub, w.nd.sublist (List.take_sublist _ _), by rw [List.length_take]; omega, fun i a m e1 e2 => ?_⟩
  have hi : i < M.length := (List.getElem?_eq_some_iff.mp e2).1
  rw [List.getElem?_take_of_lt hi] at e1
  have q := w.obj i a m e1 (by rw [List.getElem?_append_left hi]; exact e2)
  have hm := h i m e2
  cases m with
  | lst ds => obtain ⟨g, vs, e, r⟩ := q; exact ⟨g, vs, e, r.cutN hm⟩
  | ins C fs => obtain ⟨g, dx, vs, e, r⟩ := q; exact ⟨g, dx, vs, e, r.cut hm⟩
  | dk kvs => obtain ⟨g, vs, e, r⟩ := q; exact ⟨g, vs, e, r.cut hm⟩
  | gone => exact q
theorem Ext.cut {H0 G0 : Hp} {a0 : List Addr} (x : Ext H0 G0 a0 H G as) (h : a0.length ≤ n) : Ext H0 G0 a0 H G (as.take n) := by
  refine ⟨x.g, fun i a e => ?_, x.k, fun a m n' => x.f a (List.mem_of_mem_take m) n'⟩
  have q := (List.getElem?_eq_some_iff.mp e).1
  rw [List.getElem?_take_of_lt (by omega)]
  exact x.p i a e
end
/-- the ends of a def's body: what was made on the way and is not handed on may be forgotten -/
def Left (M M1 : List MO) : Prop := M.length ≤ M1.length ∧ ∀ (i : Nat) m, M1[i]? = some m → M[i]? = some m ∨ MO.lim M1.length m = true
def EdF (M : List MO) (Φ : D → List MO → Prop) : Ed where
  nx := fun _ M' => Φ .non M' ∨ ∃ M1 J, M' = M1 ++ J ∧ Left M M1 ∧ Φ .non M1
  rt := fun d M' => Φ d M' ∨ ∃ M1 J, M' = M1 ++ J ∧ Left M M1 ∧ D.lim M1.length d = true ∧ Φ d M1
theorem fs_run {K : PySem.W.Frag} {spec : Pr} {t : TS} {N : List Str} {vs : List V} {H : Hp} {Q : VK} {E : XK}
    (h : ∀ ds M Φ Ψ, spec ds M Φ Ψ → SD K (fun c d _ H => E c d H) (fun C fs _ M' => Ψ C fs M') t (startD N ds) M (EdF M Φ)) (hs : FS K spec vs H Q E) : t { nx := fun _ H' => Q .non H', rt := Q } (L2.start N vs) H := by
  obtain ⟨G, as, M, ds, Φ, Ψ, w, r, sp, ke, kx⟩ := hs
  have lm : ∀ {M1 : List MO}, Left M M1 → ∀ (i : Nat) m, M1[i]? = some m → MO.lim M1.length m = true := fun {M1} l i m e => by
    rcases l.2 i m e with q | q
    · exact MO.lim_mono l.1 m (w.lim q)
    · exact q
  refine h ds M Φ Ψ sp H G as (L2.start N vs) w (lr_start r) (fun C od fs σ' es' H' G' as' M' w' x' l' xd p => kx C od fs H' G' as' M' w' x' xd p) _ ⟨fun σ' es' H' G' as' M' w' x' l' p => ?_, fun v d H' G' as' M' w' x' r' p => ?_, fun _ _ _ _ _ _ _ _ _ p => p.elim, fun _ _ _ _ _ _ _ _ _ p => p.elim⟩
  · rcases p with p | ⟨M1, J, rfl, hl, p⟩
    · exact ke .non .non H' G' _ M' w' x' .non p
    · exact ke .non .non H' G' _ M1 (w'.cut (lm hl)) (x'.cut (by rw [w.len]; exact hl.1)) .non p
  · rcases p with p | ⟨M1, J, rfl, hl, hd, p⟩
    · exact ke v d H' G' _ M' w' x' r' p
    · exact ke v d H' G' _ M1 (w'.cut (lm hl)) (x'.cut (by rw [w.len]; exact hl.1)) (r'.cut hd) p
/-- nothing of the store has changed -/
theorem Left.same (M : List MO) : Left M M := ⟨Nat.le_refl _, fun _ _ h => .inl h⟩
theorem fs_len {K : PySem.W.Frag} {spec : Pr} {n : Nat} (h : ∀ ds M Φ Ψ, spec ds M Φ Ψ → ds.length = n) : ∀ vs H Q E, FS K spec vs H Q E → vs.length = n := fun vs H Q E hs => by
  obtain ⟨G, as, M, ds, Φ, Ψ, w, r, sp, ke, kx⟩ := hs
  rw [r.len]
  exact h ds M Φ Ψ sp
end DL
namespace DL
open PySem L2 StX

/-! ### loops -/
/-- behind a turn of a loop that began at H, G, as -/
def Lp (K : PySem.W.Frag) (H G : Hp) (as : List Addr) (I : List (Option D) → List MO → Prop) (σ' : St) (H' : Hp) : Prop :=
  ∃ G' as' es' M', Wld K H' G' as' M' ∧ Ext H G as H' G' as' ∧ LR K G' as' σ' es' ∧ I es' M'
section
variable {K : PySem.W.Frag} {W : WX} {Ξ : XW} {te tl : TE} {tb : TS} {tr : TA} {g : TG} {c : TT} {es : List (Option D)} {M : List MO} {N : Ed} {H G : Hp} {as : List Addr}
theorem ks_lp {H1 G1 : Hp} {a1 : List Addr} {I : List (Option D) → List MO → Prop} (x : Ext H G as H1 G1 a1) : KS K H1 G1 a1 (Lp K H G as I) I := fun σ' es' H' G' as' M' w' x' l' p => ⟨G', as', es', M', w', x.trans x', l', p⟩
/-- over a list that stays as it is, or a tuple -/
theorem for_core {xs : List D} {vs : List V} {σ : St} {Dn : Ends} (I : Nat → List (Option D) → List MO → Prop) (r : RA K G as vs xs) (w : Wld K H G as M) (l : LR K G as σ es) (z : KX K H G as W Ξ) (k : KD K H G as Dn N)
    (hs : ∀ (i : Nat) x es' M', xs[i]? = some x → I i es' M' → XG K W Ξ g x es' M' fun es2 M2 => SD K W Ξ tb es2 M2 { nx := I (i + 1), ct := I (i + 1), bk := N.nx, rt := N.rt }) :
    ∀ (i : Nat) x σ' H', vs[i]? = some x → Lp K H G as (I i) σ' H' → g x σ' H' fun σ2 H2 => tb { Dn with nx := Lp K H G as (I (i + 1)), ct := Lp K H G as (I (i + 1)), bk := Dn.nx } σ2 H2 := fun i x σ' H' hi p => by
  obtain ⟨G1, a1, es', M', w1, x1, l1, p⟩ := p
  obtain ⟨d, hd, rd⟩ := r.get hi
  refine hs i d es' M' hd p H' G1 a1 σ' x w1 l1 (z.ext x1) (rd.ext x1) _ fun σ2 es2 H2 G2 a2 M2 w2 x2 l2 p2 => ?_
  refine p2 H2 G2 a2 σ2 w2 l2 ((z.ext x1).ext x2) _ ⟨ks_lp (x1.trans x2), (k.rt.ext x1).ext x2, (k.nx.ext x1).ext x2, ks_lp (x1.trans x2)⟩
/-- a list's items, not of the store -/
def pitems : D → Option (List D)
  | .lst ds => some ds
  | .rol ds => some ds
  | _ => none
theorem sd_for {xs : List D} (I : Nat → List (Option D) → List MO → Prop) (hx : XE K W Ξ tl es M fun x M1 => pitems x = some xs ∧ I 0 es M1)
    (hs : ∀ (i : Nat) x es' M', xs[i]? = some x → I i es' M' → XG K W Ξ g x es' M' fun es2 M2 => SD K W Ξ tb es2 M2 { nx := I (i + 1), ct := I (i + 1), bk := N.nx, rt := N.rt }) (hd : ∀ es' M', I xs.length es' M' → N.nx es' M') : SD K W Ξ (tFor (iList K tl) g tb) es M N := fun H G as σ w l z Dn k => by
  refine hx H G as σ w l z _ fun v d1 H1 G1 a1 M1 w1 x1 r1 p1 => ?_
  obtain ⟨e, p1⟩ := p1
  -- the list stands in what stays
  have hG : ∃ a vs, v = .ref a ∧ SqL K G1 a vs ∧ RA K G1 a1 vs xs := by
    cases r1 with
    | lst s q => cases e; exact ⟨_, _, rfl, SqL.of s, q⟩
    | rol s q => cases e; exact ⟨_, _, rfl, s, q⟩
    | _ => cases e
  obtain ⟨a, vs, rfl, s, r⟩ := hG
  refine ⟨a, rfl, ⟨vs, w1.sub.sqL s⟩, for_list (K := K) (a := a) (xs := vs) (fun i σ' H' => Lp K H1 G1 a1 (I i) σ' H') ⟨G1, a1, es, M1, w1, Ext.refl _ _ _, l.ext x1, p1⟩ (fun i σ' H' _ p => ?_) (for_core I r w1 (l.ext x1) (z.ext x1) (k.ext x1) hs) fun σ' H' p => ?_⟩
  · obtain ⟨G', as', es', M', w', x', l', _⟩ := p
    exact w'.sub.sqL (x'.g.sqL s)
  · obtain ⟨G', as', es', M', w', x', l', p⟩ := p
    rw [r.len] at p
    exact k.nx _ _ _ _ _ _ w' (x1.trans x') l' (hd _ _ p)
theorem sd_forT {xs : List D} (I : Nat → List (Option D) → List MO → Prop) (hx : XE K W Ξ tl es M fun x M1 => x = .tup xs ∧ I 0 es M1)
    (hs : ∀ (i : Nat) x es' M', xs[i]? = some x → I i es' M' → XG K W Ξ g x es' M' fun es2 M2 => SD K W Ξ tb es2 M2 { nx := I (i + 1), ct := I (i + 1), bk := N.nx, rt := N.rt }) (hd : ∀ es' M', I xs.length es' M' → N.nx es' M') : SD K W Ξ (tFor (iTup K tl) g tb) es M N := fun H G as σ w l z Dn k => by
  refine hx H G as σ w l z _ fun v d1 H1 G1 a1 M1 w1 x1 r1 p1 => ?_
  obtain ⟨rfl, p1⟩ := p1
  cases r1 with
  | tup s r =>
    rename_i a vs
    refine ⟨a, rfl, ⟨vs, w1.sub.sqT s⟩, for_tup (K := K) (a := a) (xs := vs) (fun i σ' H' => Lp K H1 G1 a1 (I i) σ' H') ⟨G1, a1, es, M1, w1, Ext.refl _ _ _, l.ext x1, p1⟩ (fun i σ' H' _ p => ?_) (for_core I r w1 (l.ext x1) (z.ext x1) (k.ext x1) hs) fun σ' H' p => ?_⟩
    · obtain ⟨G', as', es', M', w', x', l', _⟩ := p
      exact w'.sub.sqT (x'.g.sqT s)
    · obtain ⟨G', as', es', M', w', x', l', p⟩ := p
      rw [r.len] at p
      exact k.nx _ _ _ _ _ _ w' (x1.trans x') l' (hd _ _ p)
/-- over a list of the store that no turn changes -/
theorem sd_forM {xs : List D} {j : Nat} (I : Nat → List (Option D) → List MO → Prop) (hx : XE K W Ξ tl es M fun x M1 => x = .ptr j ∧ M1[j]? = some (.lst xs) ∧ I 0 es M1) (hk : ∀ i es' M', i ≤ xs.length → I i es' M' → M'[j]? = some (.lst xs))
    (hs : ∀ (i : Nat) x es' M', xs[i]? = some x → I i es' M' → XG K W Ξ g x es' M' fun es2 M2 => SD K W Ξ tb es2 M2 { nx := I (i + 1), ct := I (i + 1), bk := N.nx, rt := N.rt }) (hd : ∀ es' M', I xs.length es' M' → N.nx es' M') : SD K W Ξ (tFor (iList K tl) g tb) es M N := fun H G as σ w l z Dn k => by
  refine hx H G as σ w l z _ fun v d1 H1 G1 a1 M1 w1 x1 r1 p1 => ?_
  obtain ⟨rfl, hm, p1⟩ := p1
  cases r1 with
  | ptr e =>
    rename_i a
    obtain ⟨_, vs, e1, r⟩ := w1.ptrAt e hm
    -- W by hand: at each turn the list holds values of the same data
    refine ⟨a, rfl, ⟨vs, SqL.of e1⟩, fun i m σ' H' => m = xs.length - i ∧ i ≤ xs.length ∧ Lp K H1 G1 a1 (I i) σ' H', ⟨xs.length, by simp, Nat.zero_le _, ⟨G1, a1, es, M1, w1, Ext.refl _ _ _, l.ext x1, p1⟩⟩, ?_⟩
    rintro i m σ' H' ⟨rfl, hi, G2, a2, es', M', w2, x2, l2, p2⟩
    have hm2 := hk i es' M' hi p2
    obtain ⟨_, vs2, e2, r2⟩ := w2.ptrAt (x2.p _ _ e) hm2
    by_cases hlt : i < xs.length
    · have hlt2 : i < vs2.length := by rw [r2.len]; exact hlt
      refine .inr ⟨⟨vs2, vs2[i], SqL.of e2, List.getElem?_eq_getElem hlt2⟩, Lp K H1 G1 a1 (I (i + 1)), fun σ3 H3 p3 => ⟨xs.length - (i + 1), by omega, rfl, hlt, p3⟩, fun x H3 y => ?_⟩
      obtain ⟨rfl, y⟩ := y
      obtain ⟨d, hd', rd⟩ := r2.get (y vs2 (SqL.of e2))
      refine hs i d es' M' hd' p2 H3 G2 a2 σ' x w2 l2 ((z.ext x1).ext x2) rd _ fun σ3 es3 H4 G3 a3 M3 w3 x3 l3 p3 => ?_
      exact p3 H4 G3 a3 σ3 w3 l3 (((z.ext x1).ext x2).ext x3) _ ⟨ks_lp (x2.trans x3), ((k.rt.ext x1).ext x2).ext x3, ((k.nx.ext x1).ext x2).ext x3, ks_lp (x2.trans x3)⟩
    · have ei : i = xs.length := by omega
      subst ei
      exact .inl ⟨⟨vs2, SqL.of e2, by rw [r2.len]; exact Nat.le_refl _⟩, k.nx _ _ _ _ _ _ w2 (x1.trans x2) l2 (hd _ _ p2)⟩
theorem rng_core {lo : Int} {n : Nat} {σ : St} {Dn : Ends} (I : Nat → List (Option D) → List MO → Prop) (w : Wld K H G as M) (l : LR K G as σ es) (z : KX K H G as W Ξ) (k : KD K H G as Dn N) (h0 : I 0 es M)
    (hs : ∀ (i : Nat) es' M', i < n → I i es' M' → XG K W Ξ g (.int (lo + i)) es' M' fun es2 M2 => SD K W Ξ tb es2 M2 { nx := I (i + 1), ct := I (i + 1), bk := N.nx, rt := N.rt }) (hd : ∀ es' M', I n es' M' → N.nx es' M') :
    ∃ W : Nat → Nat → St → Hp → Prop, (∃ m, W 0 m σ H) ∧ ∀ i m σ H, W i m σ H →
      ((Itr lo n).stop i H ∧ Dn.nx σ H) ∨ ((Itr lo n).go i H ∧ ∃ N : St → Hp → Prop, (∀ σ' H', N σ' H' → ∃ m', m' < m ∧ W (i + 1) m' σ' H') ∧ ∀ x H', (Itr lo n).yld i H x H' → g x σ H' fun σ2 H2 => tb { Dn with nx := N, ct := N, bk := Dn.nx } σ2 H2) :=
  for_range (fun i σ' H' => Lp K H G as (I i) σ' H') ⟨G, as, es, M, w, Ext.refl _ _ _, l, h0⟩ (fun i σ' H' hi p => by
    obtain ⟨G1, a1, es', M', w1, x1, l1, p⟩ := p
    refine hs i es' M' hi p H' G1 a1 σ' _ w1 l1 (z.ext x1) (.int _) _ fun σ2 es2 H2 G2 a2 M2 w2 x2 l2 p2 => ?_
    exact p2 H2 G2 a2 σ2 w2 l2 ((z.ext x1).ext x2) _ ⟨ks_lp (x1.trans x2), (k.rt.ext x1).ext x2, (k.nx.ext x1).ext x2, ks_lp (x1.trans x2)⟩) fun σ' H' p => by
      obtain ⟨G', as', es', M', w', x', l', p⟩ := p
      exact k.nx _ _ _ _ _ _ w' x' l' (hd _ _ p)
/-- for k in range(n): the store at the start is told once the argument is valued -/
theorem sd_rng1 (h : XA K W Ξ tr es M fun ds M1 => ∃ n : Int, ds = [.int n] ∧ -1000000000 ≤ n ∧ n ≤ 1000000000 ∧ ∃ I : Nat → List (Option D) → List MO → Prop, I 0 es M1 ∧
      (∀ (i : Nat) es' M', i < n.toNat → I i es' M' → XG K W Ξ g (.int i) es' M' fun es2 M2 => SD K W Ξ tb es2 M2 { nx := I (i + 1), ct := I (i + 1), bk := N.nx, rt := N.rt }) ∧ (∀ es' M', I n.toNat es' M' → N.nx es' M')) : SD K W Ξ (tFor (iRng1 tr) g tb) es M N := fun H G as σ w l z Dn k => by
  refine h H G as σ w l z _ fun vs ds H1 G1 a1 M1 w1 x1 r1 p1 => ?_
  obtain ⟨n, rfl, h1, h2, I, h0, hs, hd⟩ := p1
  obtain ⟨v, rfl, rv⟩ := r1.one_inv
  cases rv
  refine ⟨n, rfl, by omega, by omega, rng_core (lo := 0) I w1 (l.ext x1) (z.ext x1) (k.ext x1) h0 (fun i es' M' hi p => ?_) hd⟩
  have e : (0 : Int) + (i : Int) = (i : Int) := Int.zero_add _
  rw [e]
  exact hs i es' M' hi p
theorem sd_rng2 (h : XA K W Ξ tr es M fun ds M1 => ∃ lo n : Int, ds = [.int lo, .int n] ∧ -1000000000 ≤ lo ∧ lo ≤ 1000000000 ∧ -1000000000 ≤ n ∧ n ≤ 1000000000 ∧ ∃ I : Nat → List (Option D) → List MO → Prop, I 0 es M1 ∧
      (∀ (i : Nat) es' M', i < (n - lo).toNat → I i es' M' → XG K W Ξ g (.int (lo + i)) es' M' fun es2 M2 => SD K W Ξ tb es2 M2 { nx := I (i + 1), ct := I (i + 1), bk := N.nx, rt := N.rt }) ∧ (∀ es' M', I (n - lo).toNat es' M' → N.nx es' M')) : SD K W Ξ (tFor (iRng2 tr) g tb) es M N := fun H G as σ w l z Dn k => by
  refine h H G as σ w l z _ fun vs ds H1 G1 a1 M1 w1 x1 r1 p1 => ?_
  obtain ⟨lo, n, rfl, h1, h2, h3, h4, I, h0, hs, hd⟩ := p1
  obtain ⟨u, v, rfl, ru, rv⟩ := r1.two_inv
  cases ru
  cases rv
  exact ⟨lo, n, rfl, ⟨by omega, by omega, by omega, by omega⟩, rng_core (lo := lo) I w1 (l.ext x1) (z.ext x1) (k.ext x1) h0 hs hd⟩
/-- while: the invariant with a number that falls -/
theorem sd_while (I : Nat → List (Option D) → List MO → Prop) (n0 : Nat) (h0 : I n0 es M) (hs : ∀ n es' M', I n es' M' → XT K W Ξ c es' M' fun b M2 => if b = true then SD K W Ξ tb es' M2 { nx := fun e m => ∃ n', n' < n ∧ I n' e m, ct := fun e m => ∃ n', n' < n ∧ I n' e m, bk := N.nx, rt := N.rt } else N.nx es' M2) : SD K W Ξ (tWhile c tb) es M N := fun H G as σ w l z Dn k => by
  refine ⟨fun n σ' H' => Lp K H G as (I n) σ' H', ⟨n0, G, as, es, M, w, Ext.refl _ _ _, l, h0⟩, fun n σ' H' p => ?_⟩
  obtain ⟨G1, a1, es', M', w1, x1, l1, p⟩ := p
  refine hs n es' M' p H' G1 a1 σ' w1 l1 (z.ext x1) _ fun b H2 G2 a2 M2 w2 x2 p2 => ?_
  cases b with
  | true =>
    refine ⟨Lp K H G as fun e m => ∃ n', n' < n ∧ I n' e m, fun σ3 H3 p3 => ?_, ?_⟩
    · obtain ⟨G3, a3, e3, M3, w3, x3, l3, n', hn, p3⟩ := p3
      exact ⟨n', hn, G3, a3, e3, M3, w3, x3, l3, p3⟩
    · exact p2 H2 G2 a2 σ' w2 (l1.ext x2) ((z.ext x1).ext x2) _ ⟨ks_lp (x1.trans x2), (k.rt.ext x1).ext x2, (k.nx.ext x1).ext x2, ks_lp (x1.trans x2)⟩
  | false => exact k.nx _ _ _ _ _ _ w2 (x1.trans x2) (l1.ext x2) p2
/-- a loop's body may be told as a word: what follows is shown once -/
theorem sd_cut {t u : TS} (Mid : List (Option D) → List MO → Prop) (h : SD K W Ξ t es M { N with nx := Mid }) (k : ∀ es' M', Mid es' M' → SD K W Ξ u es' M' N) : SD K W Ξ (tSeq t u) es M N :=
  sd_seq (SD.imp h (fun e m p => k e m p) (fun _ _ p => p) (fun _ _ p => p) fun _ _ p => p)
end
end DL
namespace DL
open PySem L2 StX

/-! ### an object of the store that will change no more -/
def MO.d : MO → Option D
  | .lst ds => some (.lst ds)
  | .ins C fs => some (.obj C fs)
  | .dk kvs => some (.dk kvs)
  | .gone => none
def frz (c : Nat) (d : D) : D → D
  | .ptr i => if i = c then d else .ptr i
  | x => x
section
variable {K : PySem.W.Frag} {W : WX} {Ξ : XW} {te : TE} {t : TS} {es : List (Option D)} {M : List MO} {Φ : D → List MO → Prop} {N : Ed} {H G : Hp} {as : List Addr} {σ : St}
theorem Wld.frz {c : Nat} {m : MO} {d : D} (w : Wld K H G as M) (hm : M[c]? = some m) (hd : m.d = some d) :
    ∃ G', Wld K H G' as (M.set c .gone) ∧ Ext H G as H G' as ∧ ∀ v, R K G as v (.ptr c) → R K G' as v d := by
  obtain ⟨a, ha⟩ := w.addr hm
  have q := w.ptrAt ha hm
  have key : ∃ o, H a = some o ∧ G a = none ∧ (∀ G', Sub G G' → G' a = some o → R K G' as (.ref a) d) := by
    cases m with
    | lst ds =>
      cases hd
      obtain ⟨g, vs, e, r⟩ := q
      exact ⟨_, e, g, fun G' s e' => .lst e' (r.mono s (Pre.refl _))⟩
    | ins C fs =>
      cases hd
      obtain ⟨g, dx, vs, e, r⟩ := q
      exact ⟨_, e, g, fun G' s e' => .obj e' (r.mono s (Pre.refl _))⟩
    | dk kvs =>
      cases hd
      obtain ⟨g, vs, e, r⟩ := q
      exact ⟨_, e, g, fun G' s e' => .dk (.inl e') (r.mono s (Pre.refl _))⟩
    | gone => cases hd
  obtain ⟨o, e, g, k⟩ := key
  have s : Sub G (upd G a o) := Sub.new g
  refine ⟨upd G a o, ⟨fun b u q => ?_, w.nd, by rw [List.length_set]; exact w.len, fun j b m' e1 e2 => ?_⟩, ⟨s, Pre.refl _, fun _ _ h _ => h, fun _ h n => absurd h n⟩, fun v r => ?_⟩
  · by_cases z : b = a
    · subst z
      rw [upd_same] at q
      rw [← q]
      exact e
    · rw [upd_ne z] at q
      exact w.sub b u q
  · by_cases z : c = j
    · subst z
      have hl : c < M.length := (List.getElem?_eq_some_iff.mp hm).1
      rw [List.getElem?_set_self hl] at e2
      cases e2
      rw [ha] at e1
      cases e1
      exact ⟨o, e⟩
    · rw [List.getElem?_set_ne z] at e2
      have hb : b ≠ a := fun q => by
        subst q
        obtain ⟨h1, h2⟩ := List.getElem?_eq_some_iff.mp ha
        obtain ⟨h3, h4⟩ := List.getElem?_eq_some_iff.mp e1
        exact z ((List.getElem_inj w.nd).mp (h2.trans h4.symm))
      exact (w.obj j b m' e1 e2).keep rfl (fun n => by rw [upd_ne hb]; exact n) s (Pre.refl _)
  · cases r with
    | ptr e1 =>
      rw [ha] at e1
      cases e1
      exact k _ s upd_same
theorem LR.frz {G' : Hp} {c : Nat} {d : D} (l : LR K G as σ es) (s : Sub G G') (k : ∀ v, R K G as v (.ptr c) → R K G' as v d) : LR K G' as σ (es.map (Option.map (DL.frz c d))) := by
  refine ⟨by rw [List.length_map]; exact l.len, fun i e h => ?_⟩
  rw [List.getElem?_map] at h
  cases q : es[i]? with
  | none => rw [q] at h; cases h
  | some o =>
    rw [q] at h
    cases o with
    | none => cases h
    | some e0 =>
      cases h
      obtain ⟨v, e1, r⟩ := l.at_ i e0 q
      refine ⟨v, e1, ?_⟩
      cases e0 with
      | ptr j =>
        by_cases z : j = c
        · subst z
          show R K G' as v (if j = j then d else .ptr j)
          rw [if_pos rfl]
          exact k v r
        · show R K G' as v (if j = c then d else .ptr j)
          rw [if_neg z]
          exact r.mono s (Pre.refl _)
      | _ => exact r.mono s (Pre.refl _)
theorem sd_frz (c : Nat) {m : MO} {d : D} (hm : M[c]? = some m) (hd : m.d = some d) (h : SD K W Ξ t (es.map (Option.map (DL.frz c d))) (M.set c .gone) N) : SD K W Ξ t es M N := fun H G as σ w l z Dn k => by
  obtain ⟨G', w', x, kr⟩ := w.frz hm hd
  exact h H G' as σ w' (l.frz x.g kr) (z.ext x) Dn (k.ext x)
theorem xe_frz (c : Nat) {m : MO} {d : D} (hm : M[c]? = some m) (hd : m.d = some d) (h : XE K W Ξ te (es.map (Option.map (DL.frz c d))) (M.set c .gone) Φ) : XE K W Ξ te es M Φ := fun H G as σ w l z Q q => by
  obtain ⟨G', w', x, kr⟩ := w.frz hm hd
  exact h H G' as σ w' (l.frz x.g kr) (z.ext x) Q (q.ext x)
/-- .. of a value at hand -/
theorem xe_frzV (h : XE K W Ξ te es M fun x M1 => ∃ c m d, x = .ptr c ∧ M1[c]? = some m ∧ m.d = some d ∧ Φ d (M1.set c .gone)) : XE K W Ξ te es M Φ := fun H G as σ w l z Q q => by
  refine h H G as σ w l z _ fun v x H1 G1 a1 M1 w1 x1 r1 p1 => ?_
  obtain ⟨c, m, d, rfl, hm, hd, p1⟩ := p1
  obtain ⟨G', w', x', kr⟩ := w1.frz hm hd
  exact q _ _ H1 G' a1 _ w' (x1.trans x') (kr v r1) p1
/-- the end of the store is forgotten, when no name holds it -/
def limE (n : Nat) (es : List (Option D)) : Bool := es.all fun o => match o with | some d => D.lim n d | none => true
theorem LR.cutN {n : Nat} (l : LR K G as σ es) (h : limE n es = true) : LR K G (as.take n) σ es := by
  refine ⟨l.len, fun i d e => ?_⟩
  obtain ⟨v, e1, r⟩ := l.at_ i d e
  have q := List.all_eq_true.mp h _ (List.mem_of_getElem? e)
  exact ⟨v, e1, r.cut q⟩

/-! ### truth -/
def tTruD (K : PySem.W.Frag) (ta : TE) : TT := fun σ H Q => ta σ H fun x H' => ∃ k, TruV K x H' k ∧ Q k H'
theorem pt_tru {X : Cx} {a : Expr} {ta : TE} (ha : PE X a ta) (he : ∀ whole, isTrue a X.env whole = (do let v ← whole; standAt a.pos; holding [v] (truthy v))) : PT X a (tTruD X.K ta) := pt_truth ha he
def dtru (M : List MO) : D → Option Bool
  | .non => some false
  | .bl b => some b
  | .int i => some (i != 0)
  | .tup ds => some (!ds.isEmpty)
  | .lst ds => some (!ds.isEmpty)
  | .rol ds => some (!ds.isEmpty)
  | .ptr i => match M[i]? with
    | some (.lst ds) => some (!ds.isEmpty)
    | some (.dk ds) => some (!ds.isEmpty)
    | _ => none
  | _ => none
theorem RA.emp {vs : List V} {ds : List D} (r : RA K G as vs ds) : vs.isEmpty = ds.isEmpty := by cases r <;> rfl
theorem RK.emp {vs : List (Key × V)} {ds : List (Key × D)} (r : RK K G as vs ds) : vs.isEmpty = ds.isEmpty := by cases r <;> rfl
theorem Wld.tru {v : V} {x : D} {b : Bool} (w : Wld K H G as M) (r : R K G as v x) (h : dtru M x = some b) : TruV K v H b := by
  cases r with
  | non => cases h; rfl
  | bl b => cases h; rfl
  | int i => cases h; rfl
  | tup s q => cases h; exact .inr (.inl ⟨_, w.sub.sqT s, by rw [q.emp]⟩)
  | lst s q => cases h; exact .inl ⟨_, SqL.of (w.sub _ _ s), by rw [q.emp]⟩
  | rol s q => cases h; exact .inl ⟨_, w.sub.sqL s, by rw [q.emp]⟩
  | ptr e =>
    rename_i i a
    cases hm : M[i]? with
    | none => simp [dtru, hm] at h
    | some m =>
      cases m with
      | lst ds =>
        obtain ⟨_, vs, e1, r1⟩ := w.ptrAt e hm
        have h2 : (!ds.isEmpty) = b := by simpa [dtru, hm] using h
        exact .inl ⟨vs, SqL.of e1, by rw [r1.emp]; exact h2.symm⟩
      | dk ds =>
        obtain ⟨_, vs, e1, r1⟩ := w.ptrAt e hm
        have h2 : (!ds.isEmpty) = b := by simpa [dtru, hm] using h
        exact .inr (.inr ⟨vs, e1, by rw [r1.emp]; exact h2.symm⟩)
      | ins C fs => simp [dtru, hm] at h
      | gone => simp [dtru, hm] at h
  | _ => cases h
theorem xt_tru {Ψ : Bool → List MO → Prop} (h : XE K W Ξ te es M fun x M1 => ∃ b, dtru M1 x = some b ∧ Ψ b M1) : XT K W Ξ (tTruD K te) es M Ψ := fun H G as σ w l z Q q => by
  refine h H G as σ w l z _ fun v x H1 G1 a1 M1 w1 x1 r1 p1 => ?_
  obtain ⟨b, hb, p1⟩ := p1
  exact ⟨b, w1.tru r1 hb, q b H1 G1 a1 M1 w1 x1 p1⟩
/-! ### two comparisons in a chain -/
theorem xe_chain {r r' : R2} {ta tb tc : TE} (h : XE K W Ξ ta es M fun x M1 => XE K W Ξ tb es M1 fun y M2 => XO K r x y M2 fun o M3 => ∃ b, o = .bl b ∧ if b = true then XE K W Ξ tc es M3 fun u M4 => XO K r' y u M4 Φ else Φ (.bl false) M3) : XE K W Ξ (tChain r r' ta tb tc) es M Φ := fun H G as σ w l z Q q => by
  refine h H G as σ w l z _ fun v x H1 G1 a1 M1 w1 x1 r1 p1 => ?_
  refine p1 H1 G1 a1 σ w1 (l.ext x1) (z.ext x1) _ fun u y H2 G2 a2 M2 w2 x2 r2 p2 => ?_
  refine p2 H2 G2 a2 v u w2 (r1.ext x2) r2 _ fun o d H3 G3 a3 M3 w3 x3 r3 p3 => ?_
  obtain ⟨b, rfl, p3⟩ := p3
  cases r3
  cases b with
  | true =>
    refine ⟨true, rfl, ?_⟩
    refine p3 H3 G3 a3 σ w3 (((l.ext x1).ext x2).ext x3) (((z.ext x1).ext x2).ext x3) _ fun u2 y2 H4 G4 a4 M4 w4 x4 r4 p4 => ?_
    exact p4 H4 G4 a4 u u2 w4 ((r2.ext x3).ext x4) r4 Q ((((q.ext x1).ext x2).ext x3).ext x4)
  | false => exact ⟨false, rfl, q _ _ H3 G3 a3 M3 w3 ((x1.trans x2).trans x3) (.bl _) p3⟩
theorem litems_ptr {i : Nat} {ds : List D} (h : M[i]? = some (.lst ds)) : litems M (.ptr i) = some ds := by simp [litems, h]
theorem hitems_ptr {i : Nat} {ds : List D} (h : M[i]? = some (.lst ds)) : hitems M (.ptr i) = some ds := by simp [hitems, h]
theorem tyD_ptr {i : Nat} {ds : List D} (h : M[i]? = some (.lst ds)) : tyD M "list" (.ptr i) := by simp [tyD, h]
/-- what a step may do to the one object i of the store -/
structure Up (M : List MO) (i : Nat) (M' : List MO) : Prop where
  len : M'.length = M.length
  at_ : ∀ j, j ≠ i → M'[j]? = M[j]?
theorem Up.refl (M : List MO) (i : Nat) : Up M i M := ⟨rfl, fun _ _ => rfl⟩
theorem Up.set {i : Nat} {M' : List MO} (u : Up M i M') (m : MO) : Up M i (M'.set i m) := ⟨by rw [List.length_set]; exact u.len, fun j h => by rw [List.getElem?_set_ne (Ne.symm h)]; exact u.at_ j h⟩
theorem Up.trans {i : Nat} {M1 M2 : List MO} (u : Up M i M1) (v : Up M1 i M2) : Up M i M2 := ⟨v.len.trans u.len, fun j h => (v.at_ j h).trans (u.at_ j h)⟩
theorem set_at {i : Nat} {m m' : MO} (h : M[i]? = some m) : (M.set i m')[i]? = some m' := List.getElem?_set_self (List.getElem?_eq_some_iff.mp h).1
end
/-! ### tests, case by case -/
section
variable {A B : Prop}
theorem ifD {p : Prop} [Decidable p] (h1 : p → A) (h2 : ¬ p → B) : if decide p = true then A else B := by
  by_cases h : p
  · rw [if_pos (decide_eq_true h)]
    exact h1 h
  · rw [if_neg (by rw [decide_eq_false h]; exact Bool.false_ne_true)]
    exact h2 h
theorem ifE {α : Type} [BEq α] [LawfulBEq α] {i j : α} (h1 : i = j → A) (h2 : i ≠ j → B) : if (i == j) = true then A else B := by
  by_cases h : (i == j) = true
  · rw [if_pos h]
    exact h1 (beq_iff_eq.mp h)
  · rw [if_neg h]
    exact h2 fun e => h (beq_iff_eq.mpr e)
theorem ifNE {α : Type} [BEq α] [LawfulBEq α] {i j : α} (h1 : i ≠ j → A) (h2 : i = j → B) : if (!(i == j)) = true then A else B := by
  by_cases h : (i == j) = true
  · rw [if_neg (by rw [h]; exact Bool.false_ne_true)]
    exact h2 (beq_iff_eq.mp h)
  · rw [if_pos (by simpa using h)]
    exact h1 fun e => h (beq_iff_eq.mpr e)
theorem ifND {p : Prop} [Decidable p] (h1 : ¬ p → A) (h2 : p → B) : if (!decide p) = true then A else B := by
  by_cases h : p
  · rw [if_neg (by rw [decide_eq_true h]; exact Bool.false_ne_true)]
    exact h2 h
  · rw [if_pos (by rw [decide_eq_false h]; rfl)]
    exact h1 h
theorem ifB {b : Bool} (h1 : b = true → A) (h2 : b = false → B) : if b = true then A else B := by
  cases b with
  | true => rw [if_pos rfl]; exact h1 rfl
  | false => rw [if_neg Bool.false_ne_true]; exact h2 rfl
end
section
variable {K : PySem.W.Frag} {M : List MO} {Φ : D → List MO → Prop} {i j : Int}
theorem xo_mulL (h1 : -(2 ^ 64) < i) (h2 : i < 2 ^ 64) (k : Φ (.int (i * j)) M) : XO K (rI CMul fun i j => .int (i * j)) (.int i) (.int j) M Φ := xo_ic (.inl ⟨h1, h2⟩) k
theorem xo_mulR (h1 : -(2 ^ 64) < j) (h2 : j < 2 ^ 64) (k : Φ (.int (i * j)) M) : XO K (rI CMul fun i j => .int (i * j)) (.int i) (.int j) M Φ := xo_ic (.inr ⟨h1, h2⟩) k
theorem xo_modP (h : 0 < j) (k : Φ (.int (i % j)) M) : XO K (rI (fun _ j => 0 < j) fun i j => .int (i % j)) (.int i) (.int j) M Φ := xo_ic h k
theorem xo_divP (h1 : 0 < j) (h2 : j < 1073741824) (k : Φ (.int (i / j)) M) : XO K (rI CDiv fun i j => .int (i / j)) (.int i) (.int j) M Φ := xo_ic ⟨h1, h2⟩ k
theorem xo_powP (h1 : 0 ≤ j) (h2 : j ≤ 1000000) (h3 : i.natAbs < 2 ^ 64) (k : Φ (.int (i ^ j.toNat)) M) : XO K (rI CPow fun i j => .int (i ^ j.toNat)) (.int i) (.int j) M Φ := xo_ic ⟨h1, h2, h3⟩ k
theorem xo_shlP (h1 : 0 ≤ j) (h2 : j ≤ 1000000) (h3 : i.natAbs < 2 ^ 64) (k : Φ (.int (i * 2 ^ j.toNat)) M) : XO K (rI CPow fun i j => .int (i * 2 ^ j.toNat)) (.int i) (.int j) M Φ := xo_ic ⟨h1, h2, h3⟩ k
theorem xo_shrP (h1 : 0 ≤ j) (k : Φ (.int (i / 2 ^ j.toNat)) M) : XO K (rI (fun _ j => 0 ≤ j) fun i j => .int (i / 2 ^ j.toNat)) (.int i) (.int j) M Φ := xo_ic h1 k
end
theorem K_nox {CX : CXT} {P : Program} {w : World} {K : PySem.W.Frag} {mg : Str → Option Value} {base : Heap} {N : List Str} {q : Str} {sc : Scope} {f : Addr} {cd : Value} {A : PySem.Around} {o : List Env} {s : Shared} {H : Hp} {E : XK} : (cxOf CX P w K mg base N q sc f cd A o s H E).nox.K = K := rfl
theorem K_cx {CX : CXT} {P : Program} {w : World} {K : PySem.W.Frag} {mg : Str → Option Value} {base : Heap} {N : List Str} {q : Str} {sc : Scope} {f : Addr} {cd : Value} {A : PySem.Around} {o : List Env} {s : Shared} {H : Hp} {E : XK} : (cxOf CX P w K mg base N q sc f cd A o s H E).K = K := rfl
end DL
/-! DLX1: an own exception whose __init__ begins with super().__init__(..), its class over ValueError with own classes between. -/
namespace DLX
open PySem L2 PySem.W PySem.Calls PyProof.Rows NdefX
/-- what the written part says of the class at C and of the def at f, its __init__ (the function F) -/
structure SupC (P : Program) (K : Frag) (mg : Str → Option Value) (C f : Addr) (F : NF) (fd : FuncData) : Prop where
  T : OexC K C
  fn : ∃ (oc : Value) (od : Option Addr) (osl : Array (Option Value)) (doc pm ctv : Value), fd = F.fd doc pm ctv ∧ K.lookup f = some ⟨oc, od, .func fd, osl⟩
  cd : codeIn K (.ref F.c) F.qual = true
  cell : ∃ (cc : Addr) (cl : Value) (cld : Option Addr) (csl : Array (Option Value)), F.cl = [(("__class__" : Str), cc)] ∧ K.lookup cc = some ⟨cl, cld, .cell (some (.ref C)), csl⟩
  code : ∃ (ccl : Value) (cdd : Option Addr) (vs : Array Value) (ccs : Array (Option Value)) (file : Str) (tf : Tok), K.lookup F.c = some ⟨ccl, cdd, .fields vs, ccs⟩ ∧ vs[2]? = some (.str file tf) ∧ ((P.main.file : Str) == file) = true
  sup : ks_superIn K C C "__init__" = some (some (.builtin "ValueError.__init__"))
  own : mroIn K C (.ref C) = some true
  ve : subIn K (.ref C) (.type "ValueError") = some true
  opq : nsIn K cStatics "thirdparty.any" = some none
  mgS : mg "super" = none
  top : (P.main.scope.names.lookup ("super" : Str)).isSome = false
  ini : excInitIn K C [.type "ValueError", .type "Exception", .type "BaseException", .type "object"] "ValueError.__new__" = true
section
variable {prog : Program} {w : World} {A : Around} {E : Value → Shared → Prop} {h : Heap} {g : Array GenState} {d : Drawn} {t : Nat} {os : OsState} {K : Frag}
/-- the bound __init__ called: the args are laid anew, nothing else -/
theorem call_mw {C u e t0 : Addr} {rest : List Value} {Q : Value → Shared → Prop} (X : K.In h) (q : excInitIn K C [.type "ValueError", .type "Exception", .type "BaseException", .type "object"] "ValueError.__new__" = true)
    (he : h.get? e = some (HandSPX.excO C t0)) (hu : h.get? u = some (kxs_mw "ValueError.__init__" e)) (hz : rest.length ≤ sizeLine)
    (hq : ∀ h' t1, (∀ b o, b ≠ e → h.get? b = some o → h'.get? b = some o) → h'.get? e = some (HandSPX.excO C t1) → Q .none ⟨h', g, d, t, os⟩) : wpAny (model prog w) A (call (.ref u) rest) Q E ⟨h, g, d, t, os⟩ := by
  obtain ⟨nm, N', qn, bs, bm, hdct, sn, sub, ab, col, dd, k0, k1, k2, k3, k5, hC, hT⟩ := excInit_of X q
  have two : (Value.type "method-wrapper" == Value.type "method" || Value.type "method-wrapper" == Value.type "builtin_function_or_method" || Value.type "method-wrapper" == Value.type "method-wrapper") = true := by decide
  refine wpAny_call (codeAny_of_tree (show wpAny _ A.in1 (callAny (.ref u) ⟨rest, []⟩) _ _ _ from ?_))
  unfold callAny
  refine wpAny_bind (wpAny_load hu ?_)
  dsimp only [kxs_mw]
  rw [if_pos two]
  refine wpAny_bind (check_bound_init PySem.F.excBase_ValueError.toExcCallFacts hC he rfl (wpAny_bind (wpAny_pure (wpAny_pure ?_))))
  refine ⟨PySem.plainId_quiet PySem.F.excBase_ValueError.init.plain _, codeAny_builtin PySem.F.excBase_ValueError.initEntry ?_⟩
  exact exc_init_tree (cls := .ref C) (t0 := t0) (dv := none) (c2 := .none) (c3 := .none) (b4 := .bool false) he hz fun h' k k1 _ => hq h' _ k k1
end
/-- the promise of such an __init__ at the heap: self is a fresh exception of the class at C; behind it has its own dict with the fields that fl tells of the arguments -/
def spX (C : Addr) (n : Nat) (msg : List V → Prop) (fl : List V → List (Str × V)) : Sp := fun vs H Q _ => ∃ (a : Addr) (ys : List V), vs = .ref a :: ys ∧ ys.length = n ∧ msg ys ∧ H a = some (exo a C none) ∧
  ∀ (dx : Addr) (H' : Hp), H dx = none → dx ≠ a → H' = upd (upd H dx (exd dx (fl ys))) a (exo a C (some dx)) → Q .non H'
section
variable {P : Program} {w : World} {K : Frag} {mg : Str → Option Value} {base : Heap} {C f : Addr} {F : NF} {fd : FuncData} {ps : List Str} {k : Nat}
theorem cells_super (S : SupC P K mg C f F fd) {A : Around} {outer : List Env} {s : Shared} {H : Hp} (e0 : Env0 P w K mg base A outer s H) : CellsAt F.cl ["__class__"] [some (V.ref C)] s.heap H := by
  obtain ⟨cc, cl, cld, csl, ecl, hcc⟩ := S.cell
  have hb := e0.bs cc _ (e0.mod.kin _ _ hcc)
  have one : ∀ (y : Str) (c : Addr), F.cl.lookup y = some c → y = "__class__" ∧ c = cc := fun y c e => by
    rw [ecl] at e
    by_cases q : y = "__class__"
    · subst q
      have e2 : List.lookup ("__class__" : Str) [(("__class__" : Str), cc)] = some cc := by simp [List.lookup]
      rw [e2] at e
      cases e
      exact ⟨rfl, rfl⟩
    · have q2 : (y == ("__class__" : Str)) = false := by simpa using q
      simp [List.lookup, q2] at e
  refine ⟨rfl, fun y c e => ?_, fun x y c e1 e2 => ?_, fun i y e => ?_⟩
  · obtain ⟨_, rfl⟩ := one y c e
    exact ⟨hb.2, _, _, hb.1, rfl⟩
  · rw [(one x c e1).1, (one y c e2).1]
  · cases i with
    | zero =>
      have ey : ("__class__" : Str) = y := by simpa using e
      subst ey
      refine ⟨cc, ?_, fun v ev => ?_⟩
      · rw [ecl]
        simp [List.lookup]
      · have e2 : V.ref C = v := by simpa using ev
        subst e2
        exact ⟨.ref C, rfl, _, hb.1, rfl⟩
    | succ j => simp at e
/-- THE RULE: such an __init__ by its body: the message's reading tm, the rest's reading tr -/
theorem fnok_super {N : List Str} {sp : Sp} {p0 p1 p2 p3 p4 : Pos} {msg : Expr} {rest : List Stmt} (S : SupC P K mg C f F fd) (NS : NScope N ps ["__class__"] F.scope) (hbody : F.body = .Expr (.Call (.Attribute (.Call (.Name "super" p0) [] [] p1) "__init__" p2) [msg] [] p3) p4 :: rest)
    (hself : (F.params.posonlyargs ++ F.params.args).head?.map (·.arg) = some "self") (hps : ps.head? = some "self") (hks : F.scope.names.lookup ("super" : Str) = some .globalImplicit)
    (hbind : ∀ (doc pm ctv : Value) (us : List Value), us.length = ps.length → bindArgs (F.fd doc pm ctv) ⟨us, []⟩ = pure (ps.zip us))
    (hst : ∀ env : Env, starEach [msg] env = [(false, eval msg env)])
    (hev : ∀ L : Addr, ∃ pl : Sem Bool, eval (.Call (.Attribute (.Call (.Name "super" p0) [] [] p1) "__init__" p2) [msg] [] p3) (envF F f L) = (do
      let o ← attributeBase (.Call (.Name "super" p0) [] [] p1) "__init__" (envF F f L) (eval (.Call (.Name "super" p0) [] [] p1) (envF F f L))
      standAt p2.atName
      let (g, first) ← holding [o] (getMethod o "__init__" pl)
      callWith p3 g first (backTo p3 (starEach [msg] (envF F f L))) []))
    (hsw : ∀ L : Addr, swapsWith (.Call (.Attribute (.Call (.Name "super" p0) [] [] p1) "__init__" p2) [msg] [] p3) none p4.line (envF F f L) = pure false)
    (len : ∀ vs H Q E, sp vs H Q E → vs.length = ps.length)
    (hb : ∀ (A : Around) (outer : List Env) (s : Shared) (H : Hp) (vs : List V) (Q : VK) (E : XK), Room k (A.deeper (envF F f s.heap.objs.size)) → sp vs H Q E →
      ∃ (tm : TE) (tr : TS), PE (ncx CX0 P w K mg base N F f A outer s H E) msg tm ∧ PSs (ncx CX0 P w K mg base N F f A outer s H E) rest tr ∧
        ∃ a, vs.head? = some (.ref a) ∧ H a = some (exo a C none) ∧ tm (startF N vs [some (.ref C)]) H fun _ H1 => (1 : Nat) = 1 ∧ H1 a = some (exo a C none) ∧ tr { nx := fun _ H' => Q .non H', rt := Q } (startF N vs [some (.ref C)]) H1) :
    FnOk P w K mg base CX0 (k + 1) f fd ps sp := by
  refine ⟨len, fun A outer s H args us vs Q E hr e0 hbd r hsp => ?_⟩
  have hl := len _ _ _ _ hsp
  have KX : K.In s.heap := e0.mod.kin.keeps fun b o e => (e0.bs b o e).1
  have lim : s.heap.NoLimit := e0.mod.nolimit.keeps fun b o e => (e0.bs b o e).1
  have CA := cells_super S e0
  obtain ⟨oc, od, osl, doc, pm, ctv, efd, hf⟩ := S.fn
  obtain ⟨cc, cl, cld, csl, ecl, hcc⟩ := S.cell
  obtain ⟨ccl, cdd, cvs, ccs, file, tf, hcode, hvs, hfile⟩ := S.code
  subst efd
  obtain ⟨tm, tr, hmsg, hrest, a, ha, hHa, hread⟩ := hb A outer s H vs Q E (hr.deeper _) hsp
  refine ks_codeAny_call_defAt (binds := ps.zip us) hr.depth (KX _ _ hf) rfl lim (codeRec_of KX S.cd) rfl hbd NS.nocell (fun ⟨n, _⟩ hy => NS.par n (List.of_mem_zip hy).1) (fun h₀ hns kp => ?_) NS.co NS.gen NS.kind
  have I : Inv (ncx CX0 P w K mg base N F f A outer s H E) [] (startF N vs [some (V.ref C)]) H { s with heap := h₀, toks := s.toks + (ps.zip us).length } := inv_startN NS hr.hd e0 hl r CA hns kp
  generalize hX : ncx CX0 P w K mg base N F f A outer s H E = X at I hmsg hrest
  have eP : X.prog = P := by rw [← hX]; rfl
  have eK : X.K = K := by rw [← hX]; rfl
  have eA : X.A = A.deeper (envF F f s.heap.objs.size) := by rw [← hX]; rfl
  have eE : X.env = envF F f s.heap.objs.size := by rw [← hX]; rfl
  show _root_.PySem.wpAt (model P w) (A.deeper (envF F f s.heap.objs.size)) (.func F.body (envF F f s.heap.objs.size)) (execs F.body (envF F f s.heap.objs.size)) _ _ _
  rw [hbody]
  obtain ⟨pl, hev⟩ := hev s.heap.objs.size
  have quiet : interactive (envF F f s.heap.objs.size) = false := by rw [← eE]; exact I.quiet
  refine ks_wpAt_execs_cons (ks_wpAt_Expr_any (ks_wpAt_MethodCall (pl := pl) ?_ hev) quiet (hsw _))
  -- super(): self, the class's cell
  obtain ⟨ar, har, hars⟩ : ∃ ar : Arg, (F.params.posonlyargs ++ F.params.args).head? = some ar ∧ ar.arg = "self" := by
    cases e : (F.params.posonlyargs ++ F.params.args).head? with
    | none => rw [e] at hself; cases hself
    | some ar => rw [e] at hself; exact ⟨ar, rfl, Option.some.inj hself⟩
  have kc : F.scope.names.lookup ("__class__" : Str) = some .free := NS.frk _ (by simp)
  obtain ⟨nm, qq, NN, bs, bm, sn, sub, ab, col, dd, k0, k1, k2, k3, k5, hC, hbm⟩ := S.T.cls
  have hcl : clsIn K C = some { name := nm, bases := bs, mro := .ref C :: bm, ns := NN, qualname := qq, hasDict := true, slotNames := sn, subclasses := sub, abstract := ab, collection := col, hasDel := false } := by
    unfold clsIn
    rw [hC]
    all_goals rfl
  have KI : K.In h₀ := eK ▸ I.kIn
  obtain ⟨t1, hx⟩ := exo_at I.hok hHa
  have hx : h₀.get? a = some (HandSPX.excO C t1) := hx
  have Ia : InstAt h₀ a (HandSPX.excO C t1) C none := ⟨hx, rfl, rfl, trivial⟩
  refine ks_wpAt_super_base (f := f) (cc := F.c) (env := envF F f s.heap.objs.size) hks kc rfl rfl (KI _ _ hf) rfl har rfl (KI _ _ hcode) rfl hvs hfile S.top ?_
  have glb : h₀.Ns mainGlobals mg := e0.mod.glob.keeps fun b o e => kp b o (e0.bs b o e).1
  obtain ⟨mb, hmb1, hmb2⟩ := e0.mod.blt
  have bns : h₀.Ns builtinsNs mb := hmb1.keeps fun b o e => kp b o (e0.bs b o e).1
  have boot : bootBuiltins "super" = some (.type "super") := by decide +kernel
  refine ks_loadName_global (env := envF F f s.heap.objs.size) NS.kind hks (Calls.loadGlobal_builtin (env := envF F f s.heap.objs.size) glb S.mgS bns ((hmb2 _ (by decide)).trans boot) ⟨rfl, ?_⟩)
  have hcl2 : F.cl.lookup ("__class__" : Str) = some cc := by rw [ecl]; simp [List.lookup]
  refine wpAny_loadName_free (env := envF F f s.heap.objs.size) NS.kind kc hcl2 ⟨_, KI _ _ hcc, rfl⟩ ?_
  -- self
  have p0 : ps[0]? = some ("self" : Str) := by
    cases ps with
    | nil => cases hps
    | cons p q => exact hps
  have u0 : us[0]? = some (Value.ref a) := by
    cases r with
    | nil => cases ha
    | cons rv rr =>
      have e : _ = V.ref a := Option.some.inj ha
      subst e
      cases rv
      rfl
  have ndP : ps.Nodup := by
    have q := NS.nd.sublist (List.take_sublist (ps.length + (["__class__"] : List Str).length) N)
    rw [NS.pre] at q
    exact (List.nodup_append.mp q).1
  rw [hars]
  refine wpAny_loadName_local (env := envF F f s.heap.objs.size) NS.kind (NS.par _ (List.mem_of_getElem? p0)) hns (zip_look ndP p0 u0) ?_
  refine ks_wpAny_isType_cls (KI _ _ hC) rfl ⟨rfl, ?_⟩
  refine ks_wpAny_call_super (KI _ _ hC) rfl hx rfl (fun c z => by cases z) (looks_mroIn KI S.own) (fun h' hso kk => ?_)
  -- the bound __init__
  have I1 : L2.Inv X [] (startF N vs [some (V.ref C)]) H { heap := h', gens := s.gens, drawn := s.drawn, toks := s.toks + (ps.zip us).length, os := s.os } := I.kept (t' := s.toks + (ps.zip us).length) kk
  have KI1 : K.In h' := eK ▸ I1.kIn
  have Ia1 : InstAt h' a (HandSPX.excO C t1) C none := ⟨kk _ _ hx, rfl, rfl, trivial⟩
  have hal : alongIn K "__init__" (((Value.ref C :: bm).dropWhile (· != .ref C)).drop 1) = some (some (.builtin "ValueError.__init__")) := by
    have q := S.sup
    unfold ks_superIn at q
    rw [hcl] at q
    exact q
  refine kxs_getMethod kxs_ValueError hso (looks_opaque KI1 S.opq) (l₀ := .ref C :: bm) (fun A Q E s k q => wpAny_bind ((looks_clsIn KI1 hcl) A _ E s k (wpAny_pure q))) rfl KI1 hal (Ia1.type.andThen (looks_subIn KI1 S.ve)) (ks_ne KI1 Ia1 hcl) rfl ?_
  subst hX
  have nu : H h'.objs.size = none := I1.hok.fresh (Nat.le_refl _)
  have I2 : L2.Inv (ncx CX0 P w K mg base N F f A outer s H E) [(h'.objs.size, kxs_mw "ValueError.__init__" a)] (startF N vs [some (V.ref C)]) H { heap := h'.push (kxs_mw "ValueError.__init__" a), gens := s.gens, drawn := s.drawn, toks := s.toks + (ps.zip us).length + 1, os := s.os } := by
    have J := I1.kept (h' := h'.push (kxs_mw "ValueError.__init__" a)) (t' := s.toks + (ps.zip us).length + 1) fun b o e => Heap.get?_push_of_some _ e
    refine J.pins_of fun p hp => ?_
    have ep : p = (h'.objs.size, kxs_mw "ValueError.__init__" a) := by simpa using hp
    subst ep
    refine ⟨Heap.get?_push_at rfl rfl, nu, Nat.ne_of_gt I1.lt, I1.nofs (Nat.le_refl _), fun v z => ?_⟩
    cases z
  have hpa : PA (ncx CX0 P w K mg base N F f A outer s H E) [msg] (tCons tm tNil) := pa_cons hmsg pa_nil (hst _)
  have run := hpa.run p3 _ _ _ _ (fun xs H1 => xs.length = 1 ∧ H1 a = some (exo a C none) ∧ tr { nx := fun _ H' => Q .non H', rt := Q } (startF N vs [some (V.ref C)]) H1) I2 hread
  have hst' : starEach [msg] (envF F f s.heap.objs.size) = [(false, eval msg (envF F f s.heap.objs.size))] := hst _
  have run' : wpAny (model P w) (A.deeper (envF F f s.heap.objs.size)) (spliced (backTo p3 (starEach [msg] (envF F f s.heap.objs.size)))) _ _ _ := run
  rw [hst'] at run' ⊢
  refine kxs_callWith (i := "ValueError.__init__") (x := a) rfl (evalArgs_plain (wpAny_mono run' (fun us' s3 h3 => ?_) fun e s' z => z))
  obtain ⟨vs', H3, I3, rv, hlen, hH3, q3⟩ := h3
  have hu3 := (I3.pin (h'.objs.size, kxs_mw "ValueError.__init__" a) (List.mem_append_right _ List.mem_cons_self)).1
  refine ⟨hu3, ?_⟩
  obtain ⟨t3, hx3⟩ := exo_at I3.hok hH3
  have KI3 : K.In s3.heap := I3.kIn
  have hz : us'.length ≤ sizeLine := by
    rw [← Paired.length rv, hlen]
    decide
  obtain ⟨hp3, g3, d3, t3', os3⟩ := s3
  refine call_mw KI3 S.ini hx3 hu3 hz fun h4 t4 k4 hx4 => ?_
  have I4 := I3.write (t' := t3') (x := a) (e := a) (o := exo a C none) (by rw [hH3]; exact True.intro) (.inl rfl) k4 ⟨_, hx4⟩ (exo_ok hx4)
  have eu : upd H3 a (exo a C none) = H3 := by
    funext b
    by_cases hb : b = a
    · rw [hb, upd_same]
      exact hH3.symm
    · exact upd_ne hb
  rw [eu] at I4
  have hrun := hrest.run _ _ _ _ { nx := fun _ H' => Q .non H', rt := Q } I4 q3
  show _root_.PySem.wpAt (model P w) (A.deeper (envF F f s.heap.objs.size)) _ (execs rest (envF F f s.heap.objs.size)) _ _ _
  refine wpAt_of_wpAny (wpAny_mono hrun (fun fl s' hs => ?_) fun e s' z => z)
  cases fl with
  | ret u =>
    obtain ⟨v, σ', H', J, rv', q⟩ := hs
    exact ⟨v, H', J.os, J.bare, J.base, J.hok, rv', q⟩
  | next =>
    obtain ⟨σ', H', J, q⟩ := hs
    exact ⟨V.non, H', J.os, J.bare, J.base, J.hok, rfl, q⟩
  | brk =>
    obtain ⟨_, _, _, q⟩ := hs
    exact q.elim
  | cont =>
    obtain ⟨_, _, _, q⟩ := hs
    exact q.elim
end
end DLX
/-! DLX2: raise, try over the data logic. -/
namespace DLX
open PySem L2 PySem.W PySem.Calls PyProof.Rows NdefX
section
variable {X : Cx} {e : Expr} {es : List Expr} {ta : TA} {p pos : Pos}
/-- C(e, ..), C's own __init__ keeping sp; the exception's context is None -/
theorem pmkN {x : Str} {C fI : Addr} {k : Nat} {fd : FuncData} {ps : List Str} {sp : Sp} (T : OexC X.K C) (iC : findIn X.K (.ref C) "__init__" = some (some (.ref fI))) (tI : typeIn X.K (.ref fI) = some (.type "function"))
    (F1 : FnOk X.prog X.w X.K X.mg X.base CX0 k fI fd ps sp) (hr : Room (k + 1) X.A) (hb : Binds X.K fd ps []) (hg : Gl X x) (hm : X.mg x = some (.ref C)) (ha : PA X (e :: es) ta)
    (hdb : (x == ("__debug__" : Str)) = false := by decide) (he : starEach (e :: es) X.env = (false, eval e X.env) :: starEach es X.env := by rfl) (hpl : (backTo pos (starEach es X.env)).any (·.1) = false := by rfl) :
    L2N.PMk X (.Call (.Name x p) (e :: es) [] pos) (tMkO C sp [] ta) := by
  intro pins s σ H Q I h
  obtain ⟨nm, qn, NN, bs, bm, sn, sub, ab, col, dd, k0, k1, k2, k3, k5, hC, hbm⟩ := T.cls
  refine wpAny_Call_Name_kw (ld_glob I hg hm ?_ hdb)
  refine callWith_K (h₀ := X.base) I.ok.mod.kin T.kC (thn (ha.run pos pins s σ H _ I h) fun us s1 h1 => ?_) he hpl
  obtain ⟨vs, H1, I1, r1, hz, q1⟩ := h1
  refine ⟨I1.kIn, ?_⟩
  obtain ⟨hp, g, dr, tk, os⟩ := s1
  show wpAny _ _ (call (.ref C) us) _ _ ⟨hp, g, dr, tk, os⟩
  generalize ea : hp.objs.size + 1 = a
  have big : hp.objs.size ≤ a := by omega
  have hq := q1 a (I1.hok.fresh big)
  have two : ∀ b o, hp.get? b = some o → ((hp.push (kdv_tup us)).push (HandSPX.excO C hp.objs.size)).get? b = some o := fun b o z => Heap.get?_push_of_some _ (Heap.get?_push_of_some _ z)
  have new : ((hp.push (kdv_tup us)).push (HandSPX.excO C hp.objs.size)).get? a = some (HandSPX.excO C hp.objs.size) := by
    rw [← ea]
    heap_get
  have J2 : L2.Inv X pins σ (upd H1 a (exo a C none)) ⟨(hp.push (kdv_tup us)).push (HandSPX.excO C hp.objs.size), g, dr, tk, os⟩ :=
    I1.laid (t' := tk) (a := a) (o := exo a C none) (h' := (hp.push (kdv_tup us)).push (HandSPX.excO C hp.objs.size)) two big (exo_ok new)
  have all : Vals (V.ref a :: (vs ++ [])) (Value.ref a :: us) := .cons rfl (by rw [List.append_nil]; exact r1)
  have many : (Value.ref a :: us).length = ps.length := by
    rw [← all.length]
    exact F1.len _ _ _ _ hq
  have few : us.length ≤ sizeLine := by
    have z := Paired.length r1
    rw [sizeLine_eq]
    omega
  have bnd := hb ⟨(hp.push (kdv_tup us)).push (HandSPX.excO C hp.objs.size), g, dr, tk, os⟩ (Value.ref a :: us) J2.kIn (by rw [List.append_nil]; exact many)
  rw [List.append_nil] at bnd
  have run := F1.run _ X.stack _ _ ⟨Value.ref a :: us, []⟩ (Value.ref a :: us) _ _ (fun _ _ _ => False) (hr.make C us []) (J2.env0.make C us []) bnd all hq
  subst ea
  refine wpAny_call (HandSPX.call_own PySem.F.excBase_ValueError (fun Y => HandSPX.refsVE_contains Y bm hbm) (I1.kIn _ _ hC) (looks_findIn I1.kIn iC) (fun self => bind_fn I1.kIn self tI) few (codeAny_mono run fun r s' hr' => ?_))
  cases r with
  | error er => exact (show False from hr').elim
  | ok fl =>
    cases fl with
    | ret u =>
      obtain ⟨v, H2, os2, bare2, un2, hok2, rv, rfl, d, fs, e2, ed, hd1, q2⟩ := hr'
      obtain ⟨h2, g2, d2, t2, os'⟩ := s'
      obtain ⟨t0, G, J, kG, ge, hoe, na⟩ := mk_end0 (d2 := d2) (t2 := t2) I1 (Nat.le_succ _) (fun b o z => two b o z) un2 hok2 os2 bare2 e2 ed hd1
      exact ⟨rv, _, _, _, ⟨G, g2, d2, t2, os'⟩, _, .ref C, some d, rfl, J, kG, ge, hoe, ⟨rfl, rfl, fun vs z => by cases z; rfl⟩, rfl, rfl, na, rfl, bare2, raises_own T.exC T.tyC, q2⟩
    | next => exact (show False from hr').elim
    | brk => exact (show False from hr').elim
    | cont => exact (show False from hr').elim
end

/-! ### defs that may raise, defs called within an except suite -/
section
variable {P : Program} {w : World} {K : PySem.W.Frag} {mg : Str → Option Value} {base : Heap}
theorem okN {x qual : Str} {st : Stmt} {f : Addr} {fd : FuncData} {N ps : List Str} {k : Nat} {sp : Sp} (F : Fun K x qual st f fd) (S : FnScope N ps (defScope st)) (len : ∀ vs H Q E, sp vs H Q E → vs.length = ps.length)
    (hbody : ∀ (cdv : Value) (A : Around) (outer : List Env) (s : Shared) (H : Hp) (vs : List V) (Q : VK) (E : XK), Room k (A.deeper (envOfC qual (defScope st) s.heap.objs.size f cdv)) → sp vs H Q E →
      ∃ t, PSs (cxOf (L2N.CX P w) P w K mg base N qual (defScope st) f cdv A outer s H E) (defBody st) t ∧ t { nx := fun _ H' => Q .non H', rt := Q } (L2.start N vs) H) : FnOk P w K mg base (L2N.CX P w) (k + 1) f fd ps sp := by
  obtain ⟨oc, od, kV, doc, pm, an, cdv, ct, osl, rfl, lk, hcd⟩ := F.ex
  exact fn_of lk hcd S len fun A outer s H vs Q E hr hsp => hbody cdv A outer s H vs Q E hr hsp
theorem okH {CX : CXT} {x qual : Str} {st : Stmt} {f : Addr} {fd : FuncData} {N ps : List Str} {k : Nat} {sp : Sp} (F : Fun K x qual st f fd) (S : FnScope N ps (defScope st)) (len : ∀ vs H Q E, sp vs H Q E → vs.length = ps.length)
    (hbody : ∀ (cdv : Value) (A : Around) (outer : List Env) (s : Shared) (H : Hp) (vs : List V) (Q : VK) (E : XK) (p : Addr × Obj), L2H.Hot1 A p → L2H.RoomH k (A.deeper (envOfC qual (defScope st) s.heap.objs.size f cdv)) → sp vs H Q E →
      ∃ t, PSs (L2H.cxH CX P w K mg base N qual (defScope st) f cdv A outer s H E p) (defBody st) t ∧ t { nx := fun _ H' => Q .non H', rt := Q } (L2.start N vs) H) : L2H.FnH P w K mg base CX (k + 1) f fd ps sp := by
  obtain ⟨oc, od, kV, doc, pm, an, cdv, ct, osl, rfl, lk, hcd⟩ := F.ex
  exact L2H.fn_ofH lk hcd S len fun A outer s H vs Q E p hot hr hsp => hbody cdv A outer s H vs Q E p hot hr hsp
end
section
variable {X : Cx} {CX : CXT} {k : Nat} {f C : Addr} {fd : FuncData} {ps : List Str} {sp : Sp} {E : L2.St → XK} {m : Str} {pos apos : Pos} {e o : Expr} {es : List Expr} {ta : TE} {t : TA}
/-- o.m(..), the wish about exceptions at the slots as they stand -/
theorem pe_methS {pl : Sem Bool} (he : PE X o ta) (c : Cls X.K C) (hm : Meth X.K C m f) (F : FnOk X.prog X.w X.K X.mg X.base CX k f fd ps sp) (hr : Room k X.A) (hb : Binds X.K fd ps []) (hx : ∀ σ, PassesAt CX X σ (E σ)) (ha : PA X (e :: es) t)
    (hst : starEach (e :: es) X.env = (false, eval e X.env) :: starEach es X.env := by rfl) (hpl : (backTo pos (starEach es X.env)).any (·.1) = false := by rfl)
    (ht : eval (.Call (.Attribute o m apos) (e :: es) [] pos) X.env = (do
      let ov ← eval o X.env
      standAt apos.atName
      let (f, first) ← holding [ov] (getMethod ov m pl)
      callWith pos f first (backTo pos (starEach (e :: es) X.env)) (backToKw pos (keywordEach [] X.env))) := by rfl) :
    PE X (.Call (.Attribute o m apos) (e :: es) [] pos) (L2H.tMethH C m sp E ta t) := by
  refine ⟨fun pins s σ H Q I h => PySem.W.methodCall_KW (pl := pl) (thn (he.run pins s σ H _ I h) fun u s1 ⟨x, H1, I1, rx, a, dx, fs, ex, ea, l, q⟩ => ?_) ht⟩
  subst ex
  obtain rfl : u = Value.ref a := rx
  refine getmeth_ok I1 ea c hm l (PySem.W.callWith_K (first := [.ref a]) (h₀ := X.base) I.ok.mod.kin hm.kp (thn (ha.run pos pins s1 σ H1 _ I1 q) fun us s2 ⟨vs, H2, I2, r, q2⟩ => ⟨I2.kIn, ?_⟩) hst hpl)
  exact run_fnS (us := .ref a :: us) (vs := .ref a :: vs) F hr hb (hx σ) I2 (.cons rfl r) q2
/-- o.m() -/
theorem pe_methS0 {pl : Sem Bool} (he : PE X o ta) (c : Cls X.K C) (hm : Meth X.K C m f) (F : FnOk X.prog X.w X.K X.mg X.base CX k f fd ps sp) (hr : Room k X.A) (hb : Binds X.K fd ps []) (hx : ∀ σ, PassesAt CX X σ (E σ))
    (ht : eval (.Call (.Attribute o m apos) [] [] pos) X.env = (do
      let ov ← eval o X.env
      standAt apos.atName
      let (f, first) ← holding [ov] (getMethod ov m pl)
      callWith pos f first (backTo pos (starEach [] X.env)) (backToKw pos (keywordEach [] X.env))) := by rfl) :
    PE X (.Call (.Attribute o m apos) [] [] pos) (L2H.tMethH C m sp E ta tNil) := by
  refine ⟨fun pins s σ H Q I h => PySem.W.methodCall_KW (pl := pl) (thn (he.run pins s σ H _ I h) fun u s1 ⟨x, H1, I1, rx, a, dx, fs, ex, ea, l, q⟩ => ?_) ht⟩
  subst ex
  obtain rfl : u = Value.ref a := rx
  refine getmeth_ok I1 ea c hm l ?_
  exact PySem.W.callWith_K0 (first := [.ref a]) I1.kIn hm.kp (run_fnS (us := [.ref a]) (vs := [.ref a]) F hr hb (hx σ) I1 (.cons rfl .nil) q)
end
end DLX
/-! DLX3: raise, try, isinstance, error fields over the data logic. -/
namespace DLX
open PySem L2
/-- try .. except c as the name in slot i: the reading -/
def tTry (K : PySem.W.Frag) (c : Value) (i : Nat) (tb : WX → TS) (ts : Addr → Value → Option Addr → TS) (Wout : WX) : TS := fun D σ H => tb (wAs K c i ts Wout D) D σ H
theorem ps_try {X : Cx} {x n : Str} {c : Value} {i : Nat} {body suite : List Stmt} {b₀ : Stmt} {np pos pos' : Pos} {tb : WX → TS} {ts : Addr → Value → Option Addr → TS} {Wout : WX}
    (hs : X.stack = X.env :: X.outer) (hf : X.env.frame = some X.env.locals) (hN : X.N.Nodup) (hi : X.N[i]? = some n) (hln : X.env.kindOf n = some .local) (hc : Names X x c) (tk : L2N.Takes X Wout)
    (hb : ∀ (W : WX) (pn : List (Addr × Obj)) (xe : Value → Shared → Prop), L2N.Takes (X.tr pn xe) W → PassesOwn (model X.prog X.w) X.A X.env xe → PSs (X.tr pn xe) body (tb W))
    (hsu : ∀ (a : Addr) (oe : Obj) (cls : Value) (d : Option Addr) (pn : List (Addr × Obj)), L2N.Zn cls d oe → (∃ vs, oe.data = .fields vs) → PSs (X.suite a ((a, oe) :: pn)) (b₀ :: suite) (ts a cls d)) :
    PS X (.Try body [.ExceptHandler (some (.Name x np)) (some n) (b₀ :: suite) pos'] [] [] pos) (tTry X.K c i tb ts Wout) := L2N.ps_try_as hs hf hN hi hln hc tk hb hsu
end DLX
namespace DL
open PySem L2
section
variable {K : PySem.W.Frag} {H G : Hp} {as : List Addr} {M : List MO} {σ : L2.St} {es : List (Option D)}
theorem Wld.addG (w : Wld K H G as M) {d : Addr} {o : HO} (h : H d = some o) (n : d ∉ as) : Wld K H (upd G d o) as M ∧ Ext H G as H (upd G d o) as := by
  have sg : Sub G (upd G d o) := fun a u e => by
    by_cases q : a = d
    · subst q
      have z := w.sub _ _ e
      rw [h] at z
      rw [upd_same, z]
    · rw [upd_ne q]
      exact e
  have fine : ∀ {a : Addr} {i : Nat} {m : MO}, as[i]? = some a → G a = none → upd G d o a = none := fun {a i m} ea g => by
    have q : a ≠ d := fun z => n (z ▸ List.mem_of_getElem? ea)
    rw [upd_ne q]
    exact g
  refine ⟨⟨fun a u e => ?_, w.nd, w.len, fun i a m e1 e2 => ?_⟩, ⟨sg, Pre.refl _, fun a u e _ => e, fun a m nm => absurd m nm⟩⟩
  · by_cases q : a = d
    · subst q
      rw [upd_same] at e
      cases e
      exact h
    · rw [upd_ne q] at e
      exact w.sub _ _ e
  · have q := w.obj i a m e1 e2
    have ge : ∀ (g : G a = none), upd G d o a = none := fun g => fine (i := i) (m := m) e1 g
    cases m with
    | lst ds => obtain ⟨g, vs, e, r⟩ := q; exact ⟨ge g, vs, e, r.mono sg (Pre.refl _)⟩
    | ins C fs => obtain ⟨g, dx, vs, e, r⟩ := q; exact ⟨ge g, dx, vs, e, r.mono sg (Pre.refl _)⟩
    | dk kvs => obtain ⟨g, vs, e, r⟩ := q; exact ⟨ge g, vs, e, r.mono sg (Pre.refl _)⟩
    | gone => exact q
theorem LR.unset {i : Nat} (l : LR K G as σ es) : LR K G as (σ.set i none) (es.set i none) := by
  refine ⟨by rw [List.length_set, List.length_set, l.len], fun j e h => ?_⟩
  by_cases q : i = j
  · subst q
    rw [List.getElem?_set] at h
    by_cases z : i < es.length
    · rw [if_pos rfl, if_pos z] at h
      cases h
    · rw [if_pos rfl, if_neg z] at h
      cases h
  · rw [List.getElem?_set_ne q] at h
    rw [List.getElem?_set_ne q]
    exact l.at_ j e h
end
/-- the ends of an except suite: the name is gone behind it -/
def EdX (i : Nat) (N : Ed) : Ed where
  nx := fun e m => N.nx (e.set i none) m
  rt := N.rt
  bk := fun e m => N.bk (e.set i none) m
  ct := fun e m => N.ct (e.set i none) m
section
variable {K : PySem.W.Frag} {W : WX} {Ξ : XW} {ta : TA} {es : List (Option D)} {M : List MO} {N : Ed}
theorem sd_raise {C : Addr} {n : Nat} {msg : List V → Prop} {fl : List V → List (Str × V)} (fld : List D → List (Str × D)) (P : List D → Prop)
    (hf : ∀ (G : Hp) (as : List Addr) vs ds, RA K G as vs ds → P ds → vs.length = n ∧ msg vs ∧ RF K G as (fl vs) (fld ds)) (hn : n ≤ 1000)
    (h : XA K W Ξ ta es M fun ds M1 => P ds ∧ Ξ C (fld ds) es M1) : SD K W Ξ (fun _ σ H => tMkO C (DLX.spX C n msg fl) [] ta σ H fun cls d H' => W cls d σ H') es M N := fun H G as σ w l z Dn k => by
  refine h H G as σ w l z _ fun vs ds H1 G1 a1 M1 w1 x1 r1 p1 => ?_
  obtain ⟨p1, p2⟩ := p1
  obtain ⟨e1, e2, e3⟩ := hf G1 a1 vs ds r1 p1
  refine ⟨by rw [e1]; exact hn, fun a na => ⟨a, vs, by rw [List.append_nil], e1, e2, upd_same, fun dx H' hdx ne eH => ⟨rfl, dx, fl vs, ?_, ?_, ?_, ?_⟩⟩⟩
  · rw [eH, upd_same]
  · rw [eH, upd_ne ne, upd_same]
  · rw [upd_ne ne] at hdx
    exact hdx
  · rw [upd_ne ne] at hdx
    have eq : upd (del H' a) dx (.xd (fl vs)) = upd H1 dx (.xd (fl vs)) := by
      funext b
      by_cases q : b = dx
      · rw [q, upd_same, upd_same]
      · rw [upd_ne q, upd_ne q]
        by_cases q2 : b = a
        · subst q2
          rw [na]
          unfold del
          simp
        · have dn : del H' a b = H' b := by
            unfold del
            simp [q2]
          rw [dn, eH, upd_ne q2, upd_ne q, upd_ne q2]
    rw [eq]
    obtain ⟨w2, x2⟩ := w1.newX (o := .xd (fl vs)) hdx
    exact z C (some dx) (fld ds) σ es _ G1 a1 M1 w2 (x1.trans x2) (l.ext x1) ⟨fl vs, upd_same, w1.fresh hdx, e3⟩ p2
theorem sd_raise0 {C : Addr} (h : Ξ C [] es M) : SD K W Ξ (fun _ σ H => W (.ref C) none σ H) es M N := fun H G as σ w l z Dn k =>
  z C none [] σ es H G as M w (Ext.refl _ _ _) l rfl h
/-- try: body, except c as the name in slot i: suite -/
theorem sd_try {Wout : WX} (Ξo : XW) {c : Value} {i : Nat} {tb : WX → TS} {ts : Addr → Value → Option Addr → TS} (ho : ∀ H G as, KX K H G as W Ξ → KX K H G as Wout Ξo)
    (h : ∀ W', SD K W' (fun C fs es' M' => ∃ b, PySem.W.exmOne K (.ref C) c = some b ∧ (b = true → ∀ a od, (od = none → fs = []) → SD K W Ξ (ts a (.ref C) od) (es'.set i (some (.exc a od fs))) M' (EdX i N)) ∧ (b = false → Ξo C fs es' M')) (tb W') es M N) :
    SD K W Ξ (DLX.tTry K c i tb ts Wout) es M N := fun H G as σ w l z Dn k => by
  refine h (wAs K c i ts Wout Dn) H G as σ w l (fun C od fs σ' es' H' G' as' M' w' x' l' xd p => ?_) Dn k
  obtain ⟨b, e1, e2, e3⟩ := p
  refine ⟨b, e1, fun hb a na => ?_, fun hb => ho H G as z C od fs σ' es' H' G' as' M' w' x' l' xd (e3 hb)⟩
  have fin : ∀ {G2 : Hp}, Wld K H' G2 as' M' → Ext H' G' as' H' G2 as' → R K G2 as' (.ref a) (.exc a od fs) → (od = none → fs = []) → ts a (.ref C) od { nx := fun σ' H' => Dn.nx (σ'.set i none) H', rt := Dn.rt, bk := fun σ' H' => Dn.bk (σ'.set i none) H', ct := fun σ' H' => Dn.ct (σ'.set i none) H' } (σ'.set i (some (.ref a))) H' := fun {G2} w2 x2 r2 n2 => by
    refine e2 hb a od n2 H' G2 as' _ w2 ((l'.ext x2).set r2) (z.ext (x'.trans x2)) _ ⟨fun s1 e1 H1 G1 a1 M1 w1 x1 l1 p1 => ?_, (k.rt.ext x').ext x2, fun s1 e1 H1 G1 a1 M1 w1 x1 l1 p1 => ?_, fun s1 e1 H1 G1 a1 M1 w1 x1 l1 p1 => ?_⟩
    · exact k.nx _ _ H1 G1 a1 M1 w1 ((x'.trans x2).trans x1) l1.unset p1
    · exact k.bk _ _ H1 G1 a1 M1 w1 ((x'.trans x2).trans x1) l1.unset p1
    · exact k.ct _ _ H1 G1 a1 M1 w1 ((x'.trans x2).trans x1) l1.unset p1
  cases od with
  | none =>
    have e : fs = [] := xd
    subst e
    exact fin w' (Ext.refl _ _ _) (.excN a) fun _ => rfl
  | some dd =>
    obtain ⟨vs, hd, nd, rf⟩ := xd
    obtain ⟨w2, x2⟩ := w'.addG hd nd
    exact fin w2 x2 (.excS upd_same (rf.mono x2.g x2.p)) fun q => by cases q
end
section
variable {K : PySem.W.Frag} {W : WX} {Ξ : XW} {te ta : TE} {tr : TA} {es : List (Option D)} {M : List MO} {Φ : D → List MO → Prop}
/-- a method's call that may let an exception out -/
theorem xe_methE {spec : Pr} {C : Addr} {m : Str} (h : XE K W Ξ te es M fun x M1 => dcls M1 x = some C ∧ fget m (dflds M1 x) = none ∧ XA K W Ξ tr es M1 fun ds M2 => spec (x :: ds) M2 Φ fun C fs M3 => Ξ C fs es M3) : XE K W Ξ (L2H.tMethH C m (FS K spec) (WE W) te tr) es M Φ := fun H G as σ w l z Q q => by
  refine h H G as σ w l z _ fun v d H1 G1 a1 M1 w1 x1 r1 p1 => ?_
  obtain ⟨hc, hf, p1⟩ := p1
  obtain ⟨a, dx, vs, rfl, e, rf⟩ := w1.ins r1 hc
  refine ⟨a, dx, vs, rfl, e, rf.no hf, ?_⟩
  refine p1 H1 G1 a1 σ w1 (l.ext x1) (z.ext x1) _ fun us ds H2 G2 a2 M2 w2 x2 r2 p2 => ?_
  exact ⟨G2, a2, M2, _, Φ, _, w2, .cons (r1.ext x2) r2, p2, (q.ext x1).ext x2, fun C od fs H' G' as' M' w' x' xd p => z C od fs σ es H' G' as' M' w' ((x1.trans x2).trans x') (((l.ext x1).ext x2).ext x') xd p⟩
theorem xe_methH {spec : Pr} {C : Addr} {m : Str} {E : L2.St → XK} (h : XE K W Ξ te es M fun x M1 => dcls M1 x = some C ∧ fget m (dflds M1 x) = none ∧ XA K W Ξ tr es M1 fun ds M2 => spec (x :: ds) M2 Φ fun _ _ _ => False) : XE K W Ξ (L2H.tMethH C m (FS K spec) E te tr) es M Φ := fun H G as σ w l z Q q => by
  refine h H G as σ w l z _ fun v d H1 G1 a1 M1 w1 x1 r1 p1 => ?_
  obtain ⟨hc, hf, p1⟩ := p1
  obtain ⟨a, dx, vs, rfl, e, rf⟩ := w1.ins r1 hc
  refine ⟨a, dx, vs, rfl, e, rf.no hf, ?_⟩
  refine p1 H1 G1 a1 σ w1 (l.ext x1) (z.ext x1) _ fun us ds H2 G2 a2 M2 w2 x2 r2 p2 => ?_
  exact ⟨G2, a2, M2, _, Φ, _, w2, .cons (r1.ext x2) r2, p2, (q.ext x1).ext x2, fun _ _ _ _ _ _ _ _ _ _ p => p.elim⟩
theorem xe_callH {spec : Pr} {E : L2.St → XK} (h : XA K W Ξ tr es M fun ds M1 => spec ds M1 Φ fun _ _ _ => False) : XE K W Ξ (tCallS (FS K spec) E tr) es M Φ := fun H G as σ w l z Q q => by
  refine h H G as σ w l z _ fun vs ds H1 G1 a1 M1 w1 x1 r1 p1 => ?_
  exact ⟨G1, a1, M1, ds, Φ, _, w1, r1, p1, q.ext x1, fun _ _ _ _ _ _ _ _ _ _ p => p.elim⟩
/-- the field of a caught error -/
theorem xe_xf {a C : Addr} {od : Option Addr} {f : Str} (h : XE K W Ξ te es M fun x M1 => ∃ dd fs d, x = .exc a (some dd) fs ∧ od = some dd ∧ fget f fs = some d ∧ Φ d M1) : XE K W Ξ (tXf a (.ref C) od C f te) es M Φ := fun H G as σ w l z Q q => by
  refine h H G as σ w l z _ fun v d H1 G1 a1 M1 w1 x1 r1 p1 => ?_
  obtain ⟨dd, fs, y, rfl, rfl, e, p1⟩ := p1
  cases r1 with
  | excS hg rf =>
    obtain ⟨v, ev, rv⟩ := rf.get e
    exact ⟨rfl, rfl, dd, _, v, rfl, w1.sub _ _ hg, ev, q v y H1 G1 a1 M1 w1 x1 rv p1⟩
/-- a class as a datum -/
inductive ClsD : D → Value → Prop where
  | ty (n : String) : ClsD (.ty n) (.type n)
  | gl (C : Addr) : ClsD (.gl C) (.ref C)
theorem ClsD.v {G : Hp} {as : List Addr} {v : V} {d : D} {cv : Value} (c : ClsD d cv) (r : R K G as v d) : ClsV v cv := by
  cases c with
  | ty n => cases r; exact .ty n
  | gl C => cases r; exact .own C
/-- a datum's type -/
inductive TyD (M : List MO) : D → String → Prop where
  | non : TyD M .non "NoneType"
  | bl (b : Bool) : TyD M (.bl b) "bool"
  | int (i : Int) : TyD M (.int i) "int"
  | str (x : Str) : TyD M (.str x) "str"
  | tup (ds : List D) : TyD M (.tup ds) "tuple"
  | lst {x : D} {ds : List D} (h : litems M x = some ds) : TyD M x "list"
end
end DL
namespace DLX
open PySem L2 PySem.Spec PyProof.Rows
/-- around a body nothing is let out -/
theorem takesN0 {X : Cx} : L2N.Takes X (fun _ _ _ _ => False) := fun _ _ x => by
  obtain ⟨_, _, _, _, _, _, _, _, _, _, _, _, _, _, _, _, z⟩ := x
  exact z.elim
/-- isinstance(e, c), e the exception that the suite holds, d its dict -/
def rIsED (K : PySem.W.Frag) (D a : Addr) (cls : Value) (d : Option Addr) : List V → Hp → VK → Prop := fun xs H Q => ∃ (c : V) (cv : Value) (b : Bool), cls = .ref D ∧ xs = [.ref a, c] ∧ (∀ u, RelV c u → u = cv) ∧ PySem.W.kitOne K (.ref D) cv = some b ∧ (∀ dd, d = some dd → ∃ fs, H dd = some (.xd fs)) ∧ Q (.bl b) H
theorem call_isED {X : Cx} {a D : Addr} {cls : Value} {d : Option Addr} {oe : Obj} {pn : List (Addr × Obj)} (C : ExcC X.K D) (hz : Zc cls d oe) (hf : ∃ vs, oe.data = .fields vs) : CallR (X.suite a ((a, oe) :: pn)) (.builtin "isinstance") (rIsED X.K D a cls d) := by
  intro pins s σ H xs us Q I r h
  obtain ⟨c, cv, b, rfl, rfl, hcv, e, hdd, q⟩ := h
  cases r with
  | cons rx rr =>
    cases rr with
    | cons rt rr =>
      cases rr
      cases rx
      have ec := hcv _ rt
      subst ec
      obtain ⟨hget, _⟩ := I.pin (a, oe) (List.mem_append.mpr (.inl List.mem_cons_self))
      obtain ⟨vs, hv⟩ := hf
      have J : ∃ od, PySem.W.InstAt s.heap a oe D od := by
        cases d with
        | none => exact ⟨none, hget, hz.1, by unfold PySem.W.notCls; rw [hv] <;> rfl, by rw [hz.2]; exact True.intro⟩
        | some dd =>
          obtain ⟨fs, ea⟩ := hdd dd rfl
          have hx : ObjOk X.prog X.w H s.heap dd (.xd fs) := I.hok dd _ ea
          obtain ⟨mA, hns, hr⟩ := hx
          obtain ⟨od, ho, hl⟩ := lookIn_ns hns
          exact ⟨some od, hget, hz.1, by unfold PySem.W.notCls; rw [hv] <;> rfl, by rw [hz.2]; exact ho⟩
      obtain ⟨od, J⟩ := J
      obtain ⟨cdD, hcD, _⟩ := PySem.W.any_some C.hd
      exact PySem.W.kia_one (PySem.W.kitx_exc (by rw [hcD]; rfl) C.hg C.hk C.hs C.ha C.hn C.ht C.hm) I.kIn J e (fun z => nomatch z) fun tk => ⟨.bl b, H, I.kept (t' := tk) fun _ _ z => z, rfl, q⟩
end DLX
namespace DL
open PySem L2
section
variable {K : PySem.W.Frag} {M : List MO} {Φ : D → List MO → Prop}
/-- isinstance of a caught error -/
theorem xc_isE {C a : Addr} {od : Option Addr} {fs : List (Str × D)} {c : D} {cv : Value} {b : Bool} (hc : ClsD c cv) (hk : PySem.W.kitOne K (.ref C) cv = some b) (k : Φ (.bl b) M) : XC K (DLX.rIsED K C a (.ref C) od) [.exc a od fs, c] M Φ := fun H G as us w r Q q => by
  cases r with
  | cons r1 r =>
    cases r with
    | cons r2 r =>
      cases r
      have e1 : ∀ {v : V}, R K G as v (.exc a od fs) → v = .ref a ∧ ∀ dd, od = some dd → ∃ fs, H dd = some (.xd fs) := fun r => by
        cases r with
        | excN => exact ⟨rfl, fun dd z => by cases z⟩
        | excS hg rf => exact ⟨rfl, fun dd z => by cases z; exact ⟨_, w.sub _ _ hg⟩⟩
      obtain ⟨e, e2⟩ := e1 r1
      subst e
      exact ⟨_, cv, b, rfl, rfl, fun u ru => (hc.v r2).eq ru, hk, e2, q _ _ H G as M w (Ext.refl _ _ _) (.bl b) k⟩
/-- isinstance of a plain value -/
theorem TyD.x {H G : Hp} {as : List Addr} (w : Wld K H G as M) {x : D} {n : String} {v : V} (t : TyD M x n) (r : R K G as v x) : TyX K H v (.type n) := by
  cases t with
  | non => cases r; exact .base .non
  | bl b => cases r; exact .base (.bl b)
  | int i => cases r; exact .base (.int i)
  | str y => cases r; exact .base (.str y)
  | tup ds =>
    obtain ⟨a, vs, rfl, sq, ra⟩ := w.sqT r
    rcases sq with (e | ⟨o, e⟩) | ⟨us, its, m, e, ec, _⟩
    · exact .base (.tup e)
    · exact .fTuple e
    · exact .kTuple e ec
  | lst h =>
    obtain ⟨a, vs, rfl, sq, ra⟩ := w.sqL r h
    rcases sq with (e | ⟨o, e⟩) | ⟨us, its, m, e, ec, _⟩
    · exact .base (.lst e)
    · exact .base (.frz e)
    · exact .kList e ec
theorem xc_isi {x c : D} {n : String} {cv : Value} {b : Bool} (t : TyD M x n) (hc : ClsD c cv) (hk : PySem.W.kitOne K (.type n) cv = some b) (k : Φ (.bl b) M) : XC K (rIsi K) [x, c] M Φ := fun H G as us w r Q q => by
  cases r with
  | cons r1 r =>
    cases r with
    | cons r2 r =>
      cases r
      exact ⟨_, _, _, cv, b, rfl, hc.v r2, t.x w r1, hk, q _ _ H G as M w (Ext.refl _ _ _) (.bl b) k⟩
end
end DL
namespace DLX
open PySem L2
/-- the same reading, written otherwise -/
theorem keepPS {X : Cx} {b : List Stmt} {t t' : TS} (h : PSs X b t) (e : t = t') : PSs X b t' := e ▸ h
theorem hotS {X : Cx} {a : Addr} {oe : Obj} {cls : Value} {d : Option Addr} {pn : List (Addr × Obj)} (hz : L2N.Zn cls d oe) (hf : ∃ vs, oe.data = .fields vs) : L2H.HotC (X.suite a ((a, oe) :: pn)) := by
  obtain ⟨vs, hv⟩ := hf
  exact ⟨(a, oe), ⟨rfl, vs, hv, hz.2.2 vs hv⟩, List.mem_cons_self⟩
theorem passH0 {X : Cx} {σ : L2.St} : PassesAt CX0 X σ E0 := fun _ _ _ _ _ _ h => h.elim
end DLX
namespace DL
open PySem L2
/-- what a law promises: a list of at most 63 ints in, True out -/
def pr_law : Pr := fun ds M Φ _ => ∃ cs : List Int, ds = [.rol (cs.map D.int)] ∧ M = [] ∧ cs.length ≤ 63 ∧ ∀ M', Φ (.bl true) M'
theorem ra_ints {K : PySem.W.Frag} {G : Hp} {as : List Addr} : ∀ ns : List Int, RA K G as (ns.map V.int) (ns.map D.int)
  | [] => .nil
  | n :: r => .cons (.int n) (ra_ints r)
theorem law_in {K : PySem.W.Frag} {H : Hp} {a : Addr} {ns : List Int} {E : XK} {Q : VK} (hl : ns.length ≤ 63) (hS : SqL K H a (ns.map V.int)) (hQ : ∀ H', Q (.bl true) H') : FS K pr_law [.ref a] H Q E :=
  ⟨H, [], [], [.rol (ns.map D.int)], fun d _ => d = .bl true, fun _ _ _ => False, ⟨Sub.refl _, List.nodup_nil, rfl, fun i a m e => by simp at e⟩, .cons (.rol hS (ra_ints ns)) .nil, ⟨ns, rfl, rfl, hl, fun _ => rfl⟩,
    fun v d H' G' as' M' w x r e => by subst e; cases r; exact hQ H', fun _ _ _ _ _ _ _ _ _ _ p => p.elim⟩
/-! ### == of equal data -/
mutual
theorem eqv_same : ∀ d : PyData, d.canLay0 = true → PyData.eqv d d = true
  | .none, _ => by rw [PyData.eqv]
  | .bool b, _ => by rw [PyData.eqv]; simp
  | .int i, _ => by rw [PyData.eqv]; simp
  | .str x, _ => by rw [PyData.eqv]; simp
  | .list xs, h => by rw [PyData.eqv]; exact eqvAll_same xs (by rw [PyData.canLay0] at h; exact h)
  | .tuple xs, h => by rw [PyData.eqv]; exact eqvAll_same xs (by rw [PyData.canLay0] at h; exact h)
  | .dict _, h => by rw [PyData.canLay0] at h; cases h
theorem eqvAll_same : ∀ ds : List PyData, PyData.canLayAll0 ds = true → PyData.eqvAll ds ds = true
  | [], _ => by rw [PyData.eqvAll]
  | d :: r, h => by
    rw [PyData.canLayAll0] at h
    have q := Bool.and_eq_true_iff.mp h
    rw [PyData.eqvAll, eqv_same d q.1, eqvAll_same r q.2]
    rfl
end
/-- of a datum: it may be compared, no deeper than n -/
def Fit (n : Nat) (d : PyData) : Prop := d.canLay0 = true ∧ d.depth ≤ n
theorem Fit.sh {n : Nat} {d : PyData} (f : Fit n d) (h : n ≤ 64) : SeqAt.shaped d = true := Bool.and_eq_true_iff.mpr ⟨f.1, decide_eq_true (by have := f.2; omega)⟩
theorem fit_all {n : Nat} : ∀ ds : List PyData, (∀ d ∈ ds, Fit n d) → PyData.canLayAll0 ds = true ∧ PyData.depthAll ds ≤ n
  | [], _ => ⟨by rw [PyData.canLayAll0], by rw [PyData.depthAll]; exact Nat.zero_le _⟩
  | d :: r, h => by
    have q := fit_all r fun e m => h e (List.mem_cons_of_mem _ m)
    have p := h d List.mem_cons_self
    rw [PyData.canLayAll0, PyData.depthAll, p.1, q.1]
    exact ⟨rfl, Nat.max_le.mpr ⟨p.2, q.2⟩⟩
theorem fit_list {n : Nat} {ds : List PyData} (h : ∀ d ∈ ds, Fit n d) : Fit (n + 1) (.list ds) := by
  have q := fit_all ds h
  exact ⟨by rw [PyData.canLay0]; exact q.1, by rw [PyData.depth]; exact Nat.succ_le_succ q.2⟩
theorem fit_tuple {n : Nat} {ds : List PyData} (h : ∀ d ∈ ds, Fit n d) : Fit (n + 1) (.tuple ds) := by
  have q := fit_all ds h
  exact ⟨by rw [PyData.canLay0]; exact q.1, by rw [PyData.depth]; exact Nat.succ_le_succ q.2⟩
theorem Fit.mono {n m : Nat} {d : PyData} (f : Fit n d) (h : n ≤ m) : Fit m d := ⟨f.1, Nat.le_trans f.2 h⟩
theorem fit_int {n : Nat} (i : Int) : Fit n (.int i) := ⟨by rw [PyData.canLay0], by rw [PyData.depth]; exact Nat.zero_le _⟩
theorem fit_bool {n : Nat} (i : Bool) : Fit n (.bool i) := ⟨by rw [PyData.canLay0], by rw [PyData.depth]; exact Nat.zero_le _⟩
theorem fit_none {n : Nat} : Fit n .none := ⟨by rw [PyData.canLay0], by rw [PyData.depth]; exact Nat.zero_le _⟩
theorem fit_str {n : Nat} {x : Str} (h : PyData.strOk x = true) : Fit n (.str x) := ⟨by rw [PyData.canLay0]; exact h, by rw [PyData.depth]; exact Nat.zero_le _⟩
section
variable {K : PySem.W.Frag} {M : List MO} {Φ : D → List MO → Prop} {x y : D} {p : PyData} {ps : List PyData}
theorem xo_eqSame {n : Nat} (h1 : pyM M x = some p) (h2 : pyM M y = some p) (f : Fit n p) (hn : n ≤ 64) (k : Φ (.bl true) M) : XO K (rEqU K) x y M Φ := xo_eq h1 h2 (f.sh hn) (f.sh hn) (by rw [eqv_same p f.1]; exact k)
theorem xo_neSame {n : Nat} (h1 : pyM M x = some p) (h2 : pyM M y = some p) (f : Fit n p) (hn : n ≤ 64) (k : Φ (.bl false) M) : XO K (rNeU K) x y M Φ := xo_ne h1 h2 (f.sh hn) (f.sh hn) (by rw [eqv_same p f.1]; exact k)
theorem xo_eqNil {n : Nat} (h1 : pyM M x = some (.list ps)) (f : Fit n (.list ps)) (hn : n ≤ 64) (k : Φ (.bl ps.isEmpty) M) : XO K (rEqU K) x (.lst []) M Φ :=
  xo_eq h1 (q := .list []) rfl (f.sh hn) rfl (by
    have e : PyData.eqv (.list ps) (.list []) = ps.isEmpty := by
      rw [PyData.eqv]
      cases ps with
      | nil => rw [PyData.eqvAll]; rfl
      | cons a r => rw [PyData.eqvAll]; rfl
    rw [e]
    exact k)
theorem pyM_ptr {i : Nat} {ds : List D} (h : M[i]? = some (.lst ds)) (e : pys ds = some ps) : pyM M (.ptr i) = some (.list ps) := by simp [pyM, h, e]
end
section
variable {K : PySem.W.Frag} {W : WX} {Ξ : XW} {te ta : TE} {tr : TA} {es : List (Option D)} {M : List MO} {Φ : D → List MO → Prop}
theorem ifTru {A B : Prop} {b : Bool} (e : b = true) (k : A) : if b = true then A else B := by rw [if_pos e]; exact k
theorem ifFal {A B : Prop} {b : Bool} (e : b = false) (k : B) : if b = true then A else B := by rw [if_neg (by rw [e]; exact Bool.false_ne_true)]; exact k
theorem K_cxH {CX : CXT} {P : Program} {w : World} {mg : Str → Option Value} {base : Heap} {N : List Str} {q : Str} {sc : Scope} {f : Addr} {cd : Value} {A : PySem.Around} {o : List Env} {s : Shared} {H : Hp} {E : XK} {p : Addr × Obj} : (L2H.cxH CX P w K mg base N q sc f cd A o s H E p).K = K := rfl
theorem K_ncx {CX : CXT} {P : Program} {w : World} {mg : Str → Option Value} {base : Heap} {N : List Str} {F : NdefX.NF} {f : Addr} {A : PySem.Around} {o : List Env} {s : Shared} {H : Hp} {E : XK} : (NdefX.ncx CX P w K mg base N F f A o s H E).K = K := rfl
theorem atI_int {ds : List D} {j : Int} {d : D} (h : 0 ≤ j) (e : ds[j.toNat]? = some d) : atI ds j = some d := by
  obtain ⟨n, rfl⟩ : ∃ n : Nat, j = (n : Int) := ⟨j.toNat, by omega⟩
  exact atI_nat (by simpa using e)
theorem app_n {m : MO} : (M ++ [m])[M.length]? = some m := by simp
theorem atI_last {ds : List D} {y : D} {n : Int} (h : n = ds.length) : atI (ds ++ [y]) n = some y := by
  rw [h]
  exact atI_nat (by simp)
theorem cut_last {ds : List D} {y : D} : cutD (ds ++ [y]) none (some (-1)) = ds := by
  have h1 : HT.sIx (ds ++ [y]).length 0 none = 0 := rfl
  have h2 : HT.sIx (ds ++ [y]).length (ds ++ [y]).length (some (-1)) = ds.length := by
    unfold HT.sIx
    simp
    omega
  unfold cutD
  rw [h1, h2]
  simp
theorem set_lt {i : Nat} {m m' : MO} (h : i < M.length) (e : m' = m) : (M.set i m')[i]? = some m := by
  rw [List.getElem?_set_self h, e]
theorem app_at {j : Nat} {m m' : MO} (h : j = M.length) (e : m' = m) : (M ++ [m'])[j]? = some m := by
  rw [h, ← e]
  exact app_n
theorem set_ne {i j : Nat} {m m' : MO} (h : j ≠ i) (e : M[j]? = some m) : (M.set i m')[j]? = some m := by
  rw [List.getElem?_set_ne (Ne.symm h)]
  exact e
theorem app_l {j : Nat} {m : MO} {J : List MO} (e : M[j]? = some m) : (M ++ J)[j]? = some m := by
  rw [List.getElem?_append_left (List.getElem?_eq_some_iff.mp e).1]
  exact e
theorem at_lt {j : Nat} {m : MO} (e : M[j]? = some m) : j < M.length := (List.getElem?_eq_some_iff.mp e).1
theorem fldP {Φ : D → Prop} {i : Nat} {C : Addr} {fs : List (Str × D)} {f : Str} {d : D} (h : M[i]? = some (.ins C fs)) (c : Cls K C) (n : NoAttr K C f) (e : fget f fs = some d) (k : Φ d) :
    ∃ C d', dcls M (.ptr i) = some C ∧ Cls K C ∧ NoAttr K C f ∧ fget f (dflds M (.ptr i)) = some d' ∧ Φ d' := ⟨C, d, by simp [dcls, h], c, n, by simpa [dflds, h] using e, k⟩
theorem methP {i : Nat} {C : Addr} {fs : List (Str × D)} {m : Str} {A : Prop} (h : M[i]? = some (.ins C fs)) (e : fget m fs = none) (k : A) : dcls M (.ptr i) = some C ∧ fget m (dflds M (.ptr i)) = none ∧ A := ⟨by simp [dcls, h], by simpa [dflds, h] using e, k⟩
theorem xm_popS {i : Nat} {ds : List D} {y : D} (h : M[i]? = some (.lst (ds ++ [y]))) (k : Φ y (M.set i (.lst ds))) : XM K rPop (.ptr i) [] M Φ :=
  xm_pop h (y := y) (by simp) (by rw [List.dropLast_concat]; exact k)
/-- an expression over plain data, run at any heap -/
theorem run_te {σ : L2.St} {H : Hp} (l : LR K (fun _ => none) [] σ es) (h : XE K (fun _ _ _ _ => True) (fun _ _ _ _ => False) te es [] fun d _ => ∀ M', Φ d M') : te σ H fun v H1 => (∃ d, Φ d []) ∧ ∀ a o, H a = some o → H1 a = some o :=
  h H (fun _ => none) [] σ ⟨fun a o e => (nomatch (show none = some o from e)), List.nodup_nil, rfl, fun i a m e => (nomatch (show none = some a from e))⟩ l kx_none _ fun v d H' G' as' M' w' x' r' p' => ⟨⟨d, p' []⟩, fun a o e => x'.k a o e (by simp)⟩
theorem sd_assoc {a b c : TS} {N : Ed} (h : SD K W Ξ (tSeq (tSeq a b) c) es M N) : SD K W Ξ (tSeq a (tSeq b c)) es M N := h
theorem xe_ty {n : String} (k : Φ (.ty n) M) : XE K W Ξ (tC (.ty n)) es M Φ := xe_c (fun _ _ => .ty n) k
theorem xe_gl {a : Addr} (k : Φ (.gl a) M) : XE K W Ξ (tC (.ref a)) es M Φ := xe_c (fun _ _ => .gl a) k
end
end DL
namespace P93
open PySem L2 StX DL
def top (i : Nat) : Stmt := PySem.Challenge.pw_describedonce_k93_history.main.body.getD i (.Pass ⟨0, 0, 0, 0⟩)
abbrev s_NoSuch_init : Stmt := inClass (top 2) 0
abbrev nf_NoSuch_init (cc c : Addr) : NdefX.NF := ⟨"__init__", "NoSuch.__init__", defArgs s_NoSuch_init, defBody s_NoSuch_init, defScope s_NoSuch_init, [(("__class__" : Str), cc)], c⟩
abbrev s_History_init : Stmt := inClass (top 5) 0
abbrev s_History_move : Stmt := inClass (top 5) 1
abbrev s_History_undo : Stmt := inClass (top 5) 2
abbrev s_History_redo : Stmt := inClass (top 5) 3
abbrev s_History_versions : Stmt := inClass (top 5) 4
abbrev s_History_earlier : Stmt := inClass (top 5) 5
abbrev s_law_stream : Stmt := top 7
abbrev s_law_draw : Stmt := top 8
abbrev s_law_pick : Stmt := top 9
abbrev s_law_int : Stmt := top 10
abbrev s_law_state : Stmt := top 11
abbrev s_law_moved : Stmt := top 12
abbrev s_law_earlier : Stmt := top 13
abbrev s_law_same : Stmt := top 14
abbrev s_law : Stmt := top 15
structure Txt (P : Program) (K : PySem.W.Frag) (mg : Str → Option Value) where
  z_len : mg "len" = none
  z_int : mg "int" = none
  z_str : mg "str" = none
  z_range : mg "range" = none
  z_isinstance : mg "isinstance" = none
  z_list : mg "list" = none
  z_bool : mg "bool" = none
  z_ValueError : mg "ValueError" = none
  C_DescribeError : Addr
  m_DescribeError : mg "DescribeError" = some (.ref C_DescribeError)
  k_DescribeError : PySem.W.keepIn K (.ref C_DescribeError) = true
  e_DescribeError : ExcC K C_DescribeError
  y_DescribeError : PySem.W.typeIn K (.ref C_DescribeError) = some (.type "type")
  x_DescribeError : PySem.W.excIn K C_DescribeError [.type "ValueError", .type "Exception", .type "BaseException", .type "object"] "ValueError.__new__" = true
  C_NoSuch : Addr
  m_NoSuch : mg "NoSuch" = some (.ref C_NoSuch)
  k_NoSuch : PySem.W.keepIn K (.ref C_NoSuch) = true
  e_NoSuch : ExcC K C_NoSuch
  y_NoSuch : PySem.W.typeIn K (.ref C_NoSuch) = some (.type "type")
  a_NoSuch_init : Addr
  fd_NoSuch_init : FuncData
  cc_NoSuch_init : Addr
  co_NoSuch_init : Addr
  S_NoSuch : DLX.SupC P K mg C_NoSuch a_NoSuch_init (nf_NoSuch_init cc_NoSuch_init co_NoSuch_init) fd_NoSuch_init
  b_NoSuch_init : Binds K fd_NoSuch_init ["self", "number"] []
  i_NoSuch : PySem.W.findIn K (.ref C_NoSuch) "__init__" = some (some (.ref a_NoSuch_init))
  t_NoSuch : PySem.W.typeIn K (.ref a_NoSuch_init) = some (.type "function")
  f_NoSuch : XfC K C_NoSuch
  n_NoSuch_number : PySem.W.findIn K (.ref C_NoSuch) "number" = some none
  C_NothingLeft : Addr
  m_NothingLeft : mg "NothingLeft" = some (.ref C_NothingLeft)
  k_NothingLeft : PySem.W.keepIn K (.ref C_NothingLeft) = true
  e_NothingLeft : ExcC K C_NothingLeft
  y_NothingLeft : PySem.W.typeIn K (.ref C_NothingLeft) = some (.type "type")
  x_NothingLeft : PySem.W.excIn K C_NothingLeft [.type "ValueError", .type "Exception", .type "BaseException", .type "object"] "ValueError.__new__" = true
  C_History : Addr
  m_History : mg "History" = some (.ref C_History)
  c_History : Cls K C_History
  n_History_state : NoAttr K C_History "state"
  n_History_past : NoAttr K C_History "past"
  n_History_future : NoAttr K C_History "future"
  a_History_init : Addr
  fd_History_init : FuncData
  F_History_init : Fun K "__init__" "History.__init__" s_History_init a_History_init fd_History_init
  b_History_init : Binds K fd_History_init ["self", "state"] []
  k_History_init : PySem.W.keepIn K (.ref a_History_init) = true
  mm_History_init : Meth K C_History "__init__" a_History_init
  M_History : Mk K C_History a_History_init
  a_History_move : Addr
  fd_History_move : FuncData
  F_History_move : Fun K "move" "History.move" s_History_move a_History_move fd_History_move
  b_History_move : Binds K fd_History_move ["self", "state"] []
  k_History_move : PySem.W.keepIn K (.ref a_History_move) = true
  mm_History_move : Meth K C_History "move" a_History_move
  a_History_undo : Addr
  fd_History_undo : FuncData
  F_History_undo : Fun K "undo" "History.undo" s_History_undo a_History_undo fd_History_undo
  b_History_undo : Binds K fd_History_undo ["self"] []
  k_History_undo : PySem.W.keepIn K (.ref a_History_undo) = true
  mm_History_undo : Meth K C_History "undo" a_History_undo
  a_History_redo : Addr
  fd_History_redo : FuncData
  F_History_redo : Fun K "redo" "History.redo" s_History_redo a_History_redo fd_History_redo
  b_History_redo : Binds K fd_History_redo ["self"] []
  k_History_redo : PySem.W.keepIn K (.ref a_History_redo) = true
  mm_History_redo : Meth K C_History "redo" a_History_redo
  a_History_versions : Addr
  fd_History_versions : FuncData
  F_History_versions : Fun K "versions" "History.versions" s_History_versions a_History_versions fd_History_versions
  b_History_versions : Binds K fd_History_versions ["self"] []
  k_History_versions : PySem.W.keepIn K (.ref a_History_versions) = true
  mm_History_versions : Meth K C_History "versions" a_History_versions
  a_History_earlier : Addr
  fd_History_earlier : FuncData
  F_History_earlier : Fun K "earlier" "History.earlier" s_History_earlier a_History_earlier fd_History_earlier
  b_History_earlier : Binds K fd_History_earlier ["self", "steps"] []
  k_History_earlier : PySem.W.keepIn K (.ref a_History_earlier) = true
  mm_History_earlier : Meth K C_History "earlier" a_History_earlier
  a_law_stream : Addr
  fd_law_stream : FuncData
  F_law_stream : Fun K "_law_stream" "_law_stream" s_law_stream a_law_stream fd_law_stream
  b_law_stream : Binds K fd_law_stream ["script"] []
  k_law_stream : PySem.W.keepIn K (.ref a_law_stream) = true
  m_law_stream : mg "_law_stream" = some (.ref a_law_stream)
  a_law_draw : Addr
  fd_law_draw : FuncData
  F_law_draw : Fun K "_law_draw" "_law_draw" s_law_draw a_law_draw fd_law_draw
  b_law_draw : Binds K fd_law_draw ["s", "many"] []
  k_law_draw : PySem.W.keepIn K (.ref a_law_draw) = true
  m_law_draw : mg "_law_draw" = some (.ref a_law_draw)
  a_law_pick : Addr
  fd_law_pick : FuncData
  F_law_pick : Fun K "_law_pick" "_law_pick" s_law_pick a_law_pick fd_law_pick
  b_law_pick : Binds K fd_law_pick ["s", "row"] []
  k_law_pick : PySem.W.keepIn K (.ref a_law_pick) = true
  m_law_pick : mg "_law_pick" = some (.ref a_law_pick)
  a_law_int : Addr
  fd_law_int : FuncData
  F_law_int : Fun K "_law_int" "_law_int" s_law_int a_law_int fd_law_int
  b_law_int : Binds K fd_law_int ["x"] []
  k_law_int : PySem.W.keepIn K (.ref a_law_int) = true
  m_law_int : mg "_law_int" = some (.ref a_law_int)
  a_law_state : Addr
  fd_law_state : FuncData
  F_law_state : Fun K "_law_state" "_law_state" s_law_state a_law_state fd_law_state
  b_law_state : Binds K fd_law_state ["s"] []
  k_law_state : PySem.W.keepIn K (.ref a_law_state) = true
  m_law_state : mg "_law_state" = some (.ref a_law_state)
  a_law_moved : Addr
  fd_law_moved : FuncData
  F_law_moved : Fun K "_law_moved" "_law_moved" s_law_moved a_law_moved fd_law_moved
  b_law_moved : Binds K fd_law_moved ["history", "way", "state"] []
  k_law_moved : PySem.W.keepIn K (.ref a_law_moved) = true
  m_law_moved : mg "_law_moved" = some (.ref a_law_moved)
  a_law_earlier : Addr
  fd_law_earlier : FuncData
  F_law_earlier : Fun K "_law_earlier" "_law_earlier" s_law_earlier a_law_earlier fd_law_earlier
  b_law_earlier : Binds K fd_law_earlier ["history", "steps"] []
  k_law_earlier : PySem.W.keepIn K (.ref a_law_earlier) = true
  m_law_earlier : mg "_law_earlier" = some (.ref a_law_earlier)
  a_law_same : Addr
  fd_law_same : FuncData
  F_law_same : Fun K "_law_same" "_law_same" s_law_same a_law_same fd_law_same
  b_law_same : Binds K fd_law_same ["history", "model"] []
  k_law_same : PySem.W.keepIn K (.ref a_law_same) = true
  m_law_same : mg "_law_same" = some (.ref a_law_same)
  a_law : Addr
  fd_law : FuncData
  F_law : Fun K "law" "law" s_law a_law fd_law
  b_law : Binds K fd_law ["script"] []
  k_law : PySem.W.keepIn K (.ref a_law) = true
  m_law : mg "law" = some (.ref a_law)
  is_NothingLeft_DescribeError : PySem.W.kitOne K (.ref C_NothingLeft) (.ref C_DescribeError) = some true
  is_NothingLeft_ValueError : PySem.W.kitOne K (.ref C_NothingLeft) (.type "ValueError") = some true
  is_NothingLeft_NoSuch : PySem.W.kitOne K (.ref C_NothingLeft) (.ref C_NoSuch) = some false
  is_NoSuch_DescribeError : PySem.W.kitOne K (.ref C_NoSuch) (.ref C_DescribeError) = some true
  is_NoSuch_NothingLeft : PySem.W.kitOne K (.ref C_NoSuch) (.ref C_NothingLeft) = some false
  ex_NothingLeft_NothingLeft : PySem.W.exmOne K (.ref C_NothingLeft) (.ref C_NothingLeft) = some true
  ex_NoSuch_NoSuch : PySem.W.exmOne K (.ref C_NoSuch) (.ref C_NoSuch) = some true
end P93
namespace P93
open PySem L2 StX DL
local macro_rules | `(tactic| walk_at "lt") => `(tactic| first
  | assumption | omega | (simp only [List.length_set, List.length_append, List.length_cons, List.length_nil]; first | omega | exact at_lt (by assumption) | exact Nat.lt_of_lt_of_le (at_lt (by assumption)) (by omega)) | exact at_lt (by assumption))
local macro_rules | `(tactic| walk_at "ne") => `(tactic| first
  | assumption | exact Ne.symm (by assumption) | omega | (simp only [List.length_set, List.length_append, List.length_cons, List.length_nil]; omega))
local macro_rules | `(tactic| walk_at "mo") => `(tactic| first
  | assumption
  | ((refine' app_at ?hh ?ee); (case hh => first | rfl | omega | (simp only [List.length_set, List.length_append, List.length_cons, List.length_nil]; done) | (simp only [List.length_set, List.length_append, List.length_cons, List.length_nil]; omega)); (case ee => rfl))
  | ((refine' set_lt ?hh ?ee); (case hh => walk_at "lt"); (case ee => rfl))
  | exact set_ne (by walk_at "ne") (by walk_at "mo")
  | exact app_l (by walk_at "mo"))
local macro_rules | `(tactic| walk_at "x1") => `(tactic| first
  | (with_reducible first
    | refine sd_asg ?_ | refine sd_if ?_ | refine sd_ret ?_ | refine sd_drop ?_ | refine sd_next ?_ | refine sd_asgG ?_
    | refine xe_var rfl ?_ | refine xe_ty ?_ | refine xe_gl ?_ | refine xe_int ?_ | refine xe_str ?_ | refine xe_bl ?_ | refine xe_non ?_ | refine xe_op ?_ | refine xe_un ?_ | refine xe_cb ?_
    | refine xa_nil ?_ | refine xa_cons ?_ | refine xt_test ?_ | refine xt_and ?_ | refine xt_or ?_ | refine xt_not ?_ | refine xt_tru ?_ | refine xe_if ?_ | refine xe_andV ?_ | refine xe_orV ?_ | refine xe_notV ?_ | refine sd_fld ?_ | refine xe_fld ?_ | refine xe_meth ?_ | refine xe_bm0 ?_ | refine xe_chain ?_ | refine DL.xe_methE ?_ | refine xe_make ?_ | refine xe_sl ?_ | refine xp_none ?_ | refine xp_some ?_ | refine DL.xe_callE ?_ | refine DL.xe_callH ?_ | refine DL.xe_xf ?_ | refine xo_isN ?_ | refine xo_notN ?_
    | refine xo_addI ?_ | refine xo_i ?_ | refine xo_b ?_ | refine xu_i ?_ | refine xo_eqI ?_ | refine xo_neI ?_ | refine xo_eqS ?_ | refine xo_neS ?_
    | refine xc_intI ?_ | refine xc_intB ?_ | refine xe_call ?_
    | refine ⟨_, rfl, ?_⟩ | refine L2.iteF ?_ | refine L2.iteT ?_)
  | ((with_reducible refine' xo_ixL rfl ?k1 ?_); (case k1 => first | rfl | assumption))
  | ((with_reducible refine' xo_mulL ?k1 ?k2 ?_); (case k1 => omega); (case k2 => omega))
  | ((with_reducible refine' xo_mulR ?k1 ?k2 ?_); (case k1 => omega); (case k2 => omega))
  | ((with_reducible refine' xo_modP ?k1 ?_); (case k1 => omega))
  | ((with_reducible refine' xo_divP ?k1 ?k2 ?_); (case k1 => omega); (case k2 => omega))
  | ((with_reducible refine' xo_powP ?k1 ?k2 ?k3 ?_); (case k1 => decide); (case k2 => decide); (case k3 => decide))
  | ((with_reducible refine' xe_bm (xe_var rfl (And.intro (tyD_ptr ?k1) ?_))); (case k1 => walk_at "mo"))
  | ((with_reducible refine' xm_append ?k1 ?k2 ?_); (case k1 => walk_at "mo"); (case k2 => first | omega | (simp only [List.length_map]; omega)))
  | ((with_reducible refine' xo_ixL (litems_ptr ?k1) ?k2 ?_); (case k1 => walk_at "mo"); (case k2 => first | rfl | assumption))
  | ((with_reducible refine xg_setL ?_))
  | ((with_reducible refine' ⟨_, _, _, _, rfl, rfl, ?k1, ?k2, ?_⟩); (case k1 => walk_at "mo"); (case k2 => rfl))
  | ((with_reducible refine' xc_lenL rfl ?_))
  | ((with_reducible refine' xc_lenL (litems_ptr ?k1) ?_); (case k1 => walk_at "mo"))
  | ((with_reducible refine' ⟨_, _, _, rfl, ?k1, ?k2, ?k3, ?k4, ?_⟩); (case k1 => walk_at "mo"); (case k2 => assumption); (case k3 => assumption); (case k4 => first | decide | exact Nat.le_of_ble_eq_true rfl))
  | ((with_reducible refine' fldP ?k1 ?k2 ?k3 ?k4 ?_); (case k1 => walk_at "mo"); (case k2 => assumption); (case k3 => assumption); (case k4 => rfl))
  | ((with_reducible refine' methP ?k1 ?k2 ?_); (case k1 => walk_at "mo"); (case k2 => rfl))
  | ((with_reducible refine' xe_bm0 (xe_var rfl (And.intro (tyD_ptr ?k1) ?_))); (case k1 => walk_at "mo"))
  | ((with_reducible refine' And.intro (tyD_ptr ?k1) ?_); (case k1 => walk_at "mo"))
  | (with_reducible refine xe_bm ?_)
  | ((with_reducible refine' xm_popS ?k1 ?_); (case k1 => walk_at "mo"))
  | ((with_reducible refine' ifTru ?k1 ?_); (case k1 => rfl)) | ((with_reducible refine' ifFal ?k1 ?_); (case k1 => rfl))
  | (refine ⟨_, _, _, rfl, rfl, rfl, ?_⟩))
local macro_rules | `(tactic| walk_at "xe") => `(tactic| first
  | (with_reducible refine sd_seq ?_)
  | walk_at "x1")
/-- the law's stream of drawn numbers stands at number i of the store -/
def Strm (M : List MO) (i : Nat) : Prop := ∃ (cs : List Int) (p : Nat) (l sd n : Int), M[i]? = some (.lst [.lst (cs.map D.int), .int p, .int l, .int sd, .int n])
/-- all that was in the store stands as it was -/
def Grow (M M' : List MO) : Prop := ∀ (j : Nat) m, M[j]? = some m → M'[j]? = some m
theorem Grow.len {M M' : List MO} (g : Grow M M') : M.length ≤ M'.length := by
  cases h : M.length with
  | zero => exact Nat.zero_le _
  | succ k =>
    have q := g k M[k] (List.getElem?_eq_getElem (by omega))
    exact (List.getElem?_eq_some_iff.mp q).1
theorem Grow.app (M J : List MO) : Grow M (M ++ J) := fun j m h => by
  rw [List.getElem?_append_left (List.getElem?_eq_some_iff.mp h).1]
  exact h
theorem cut_ints (cs : List Int) (lo hi : Option Int) : ∃ cs' : List Int, cutD (cs.map D.int) lo hi = cs'.map D.int ∧ cs'.length ≤ cs.length := by
  refine ⟨(cs.drop (HT.sIx cs.length 0 lo)).take (HT.sIx cs.length cs.length hi - HT.sIx cs.length 0 lo), ?_, ?_⟩
  · unfold cutD
    rw [List.length_map, List.map_take, List.map_drop]
  · rw [List.length_take, List.length_drop]
    omega
def pr_stream : Pr := fun ds M Φ _ => ∃ cs : List Int, ds = [.rol (cs.map D.int)] ∧ cs.length ≤ 63 ∧ ∀ i M', Grow M M' → M.length ≤ i → Strm M' i → Φ (.ptr i) M'
section
variable {P : Program} {w : World} {K : PySem.W.Frag} {mg : Str → Option Value} {base : Heap}
theorem sc_law_stream : FnScope ["script", "cells", "cell"] ["script"] (defScope s_law_stream) := ⟨rfl, rfl, rfl, by decide +kernel, rfl, by decide +kernel, by decide +kernel⟩
theorem ok_law_stream (T : Txt P K mg) : FnOk P w K mg base CX0 1 T.a_law_stream T.fd_law_stream ["script"] (FS K pr_stream) := by
  refine T.F_law_stream.ok sc_law_stream (fs_len fun ds M Φ Ψ h => by obtain ⟨cs, rfl, _⟩ := h; rfl) fun cdv A outer s H vs Q E hr h => ?_
  refine ⟨_, (pss_cons (ps_set (i := 1) sc_law_stream.nd rfl (Or.inl rfl) (pe_lst pa_nil))
  (pss_cons (ps_for PassesOwn.never rfl (pi_list (pe_slice sl_list (pv 0) po_none (po_some pe_int))) (pg_name (i := 2) sc_law_stream.nd rfl (Or.inl rfl))
  (pss_one (ps_if (pt_cmpR op_lt (pv 2) pe_int (nomark _))
  (pss_one (ps_expr (pe_bm PySem.F.plainAttrs_list PySem.F.slot_list_append PySem.F.type_list_append mt_append (pv 1) (pa_cons (pe_op op_sub (pe_op op_mul (pe_un un_neg pe_int) (pv 2)) pe_int) pa_nil))))
  (pss_one (ps_expr (pe_bm PySem.F.plainAttrs_list PySem.F.slot_list_append PySem.F.type_list_append mt_append (pv 1) (pa_cons (pe_op op_mul pe_int (pv 2)) pa_nil)))))))
  (pss_one (ps_ret (pe_lst (pa_cons (pv 1) (pa_cons pe_int (pa_cons pe_int (pa_cons pe_int (pa_cons pe_int pa_nil)))))))))), ?_⟩
  dsimp only [K_nox]
  refine fs_run (fun ds M Φ Ψ hs => ?_) h
  obtain ⟨cs, rfl, hl, k⟩ := hs
  obtain ⟨cs', hc, hl'⟩ := cut_ints cs none (some 63)
  refine sd_seq (sd_asg (xe_lstM (xa_nil ⟨Nat.zero_le _, ?_⟩)))
  refine sd_seq (sd_for (xs := cs'.map D.int) (fun i es' M' => ∃ (acc : List Int) (o : Option D), acc.length = i ∧ es' = [some (.rol (cs.map D.int)), some (.ptr M.length), o] ∧ M' = M ++ [.lst (acc.map D.int)]) (xe_sl (xe_var rfl (xp_none (xp_some (xe_int ⟨_, rfl, xs_l rfl ?_⟩))))) ?_ ?_)
  · rw [hc]
    exact ⟨rfl, [], none, rfl, rfl, rfl⟩
  · rintro i x es' M' hi ⟨acc, o, rfl, rfl, rfl⟩
    obtain ⟨z, rfl⟩ : ∃ z, x = .int z := by
      rw [List.getElem?_map] at hi
      cases e : cs'[acc.length]? with
      | none => rw [e] at hi; cases hi
      | some z => rw [e] at hi; exact ⟨z, (Option.some.inj hi).symm⟩
    have hlt : acc.length < 63 := by
      have q := (List.getElem?_eq_some_iff.mp hi).1
      rw [List.length_map] at q
      omega
    have hm : (M ++ [MO.lst (acc.map D.int)])[M.length]? = some (.lst (acc.map D.int)) := by simp
    have hs : ∀ y : Int, (M ++ [MO.lst (acc.map D.int)]).set M.length (.lst (acc.map D.int ++ [D.int y])) = M ++ [MO.lst ((acc ++ [y]).map D.int)] := fun y => by simp
    refine xg_name (sd_if (xt_test ?_))
    repeat walk_at "xe"
    refine ifD (fun hz => ?_) (fun hz => ?_)
    all_goals
      repeat walk_at "xe"
      rw [hs]
      exact ⟨_, _, by rw [List.length_append]; rfl, rfl, rfl⟩
  · rintro es' M' ⟨acc, o, hacc, rfl, rfl⟩
    refine sd_frz M.length (m := .lst (acc.map D.int)) (d := .lst (acc.map D.int)) (by simp) rfl ?_
    have e1 : (M ++ [MO.lst (acc.map D.int)]).set M.length .gone = M ++ [.gone] := by simp
    rw [e1]
    have e2 : (Option.map (frz M.length (.lst (acc.map D.int))) (some (.ptr M.length))) = some (.lst (acc.map D.int)) := by simp [frz]
    show DL.SD K _ _ _ [_, Option.map (frz M.length (.lst (acc.map D.int))) (some (.ptr M.length)), _] _ _
    rw [e2]
    refine sd_ret (xe_lstM ?_)
    repeat walk_at "xe"
    refine ⟨by simp, .inl (k _ _ (fun j m h => ?_) ?_ ?_)⟩
    · rw [List.append_assoc]
      exact Grow.app _ _ j m h
    · simp
    · exact ⟨acc, 0, 0, 1, 0, by rw [List.getElem?_append_right (Nat.le_refl _)]; simp⟩
def pr_draw : Pr := fun ds M Φ _ => ∃ i many, ds = [.ptr i, .int many] ∧ 0 < many ∧ many < 1073741824 ∧ Strm M i ∧ ∀ k M', 0 ≤ k → k < many → Up M i M' → Strm M' i → Φ (.int k) M'
theorem sc_law_draw : FnScope ["s", "many", "told", "cell"] ["s", "many"] (defScope s_law_draw) := ⟨rfl, rfl, rfl, by decide +kernel, rfl, by decide +kernel, by decide +kernel⟩
theorem ok_law_draw (T : Txt P K mg) : FnOk P w K mg base CX0 1 T.a_law_draw T.fd_law_draw ["s", "many"] (FS K pr_draw) := by
  refine T.F_law_draw.ok sc_law_draw (fs_len fun ds M Φ Ψ h => by obtain ⟨i, many, rfl, _⟩ := h; rfl) fun cdv A outer s H vs Q E hr h => ?_
  refine ⟨_, (pss_cons (ps_if (PW.pt (pw_and (pt_cmpR (op_eqU hr.units) (pe_ix ix_seq (pv 0) pe_int (fun _ _ => rfl)) pe_int (nomark _)) (pw_and (pt_cmpR op_lt (pe_ix ix_seq (pv 0) pe_int (fun _ _ => rfl)) (pe_callB call_lenU (by rfl) T.z_len PySem.boot_len (pa_cons (pe_ix ix_seq (pv 0) pe_int (fun _ _ => rfl)) pa_nil)) (nomark _)) (pw_and1 (pt_cmpR op_ge (pe_ix ix_seq (pe_ix ix_seq (pv 0) pe_int (fun _ _ => rfl)) (pe_ix ix_seq (pv 0) pe_int (fun _ _ => rfl)) (fun _ _ => rfl)) (pe_op op_pow pe_int pe_int) (nomark _))))))
  (pss_cons (ps_asg (pe_ix ix_seq (pe_ix ix_seq (pv 0) pe_int (fun _ _ => rfl)) (pe_ix ix_seq (pv 0) pe_int (fun _ _ => rfl)) (fun _ _ => rfl)) (pg_sub (pv 0) pe_int set_list))
  (pss_one (ps_asg (pe_op op_addU (pe_ix ix_seq (pv 0) pe_int (fun _ _ => rfl)) pe_int) (pg_sub (pv 0) pe_int set_list))))
  pss_nil)
  (pss_cons (ps_if (pt_cmpR op_gt (pe_ix ix_seq (pv 0) pe_int (fun _ _ => rfl)) pe_int (nomark _))
  (pss_cons (ps_set (i := 2) sc_law_draw.nd rfl (Or.inl rfl) (pe_op op_mod (pe_callTy call_intU (by rfl) T.z_int (by decide +kernel) (pa_cons (pe_ix ix_seq (pv 0) pe_int (fun _ _ => rfl)) pa_nil)) (pv 1)))
  (pss_cons (ps_asg (pe_op op_fdiv (pe_callTy call_intU (by rfl) T.z_int (by decide +kernel) (pa_cons (pe_ix ix_seq (pv 0) pe_int (fun _ _ => rfl)) pa_nil)) (pv 1)) (pg_sub (pv 0) pe_int set_list))
  (pss_one (ps_ret (pv 2)))))
  pss_nil)
  (pss_cons (ps_set (i := 3) sc_law_draw.nd rfl (Or.inl rfl) pe_int)
  (pss_cons (ps_if (pt_cmpR op_lt (pe_ix ix_seq (pv 0) pe_int (fun _ _ => rfl)) (pe_callB call_lenU (by rfl) T.z_len PySem.boot_len (pa_cons (pe_ix ix_seq (pv 0) pe_int (fun _ _ => rfl)) pa_nil)) (nomark _))
  (pss_cons (ps_set (i := 3) sc_law_draw.nd rfl (Or.inl rfl) (pe_ix ix_seq (pe_ix ix_seq (pv 0) pe_int (fun _ _ => rfl)) (pe_ix ix_seq (pv 0) pe_int (fun _ _ => rfl)) (fun _ _ => rfl)))
  (pss_one (ps_asg (pe_op op_addU (pe_ix ix_seq (pv 0) pe_int (fun _ _ => rfl)) pe_int) (pg_sub (pv 0) pe_int set_list))))
  pss_nil)
  (pss_cons (ps_asg (pe_op op_addU (pe_ix ix_seq (pv 0) pe_int (fun _ _ => rfl)) pe_int) (pg_sub (pv 0) pe_int set_list))
  (pss_cons (ps_asg (pe_op op_mod (pe_callTy call_intU (by rfl) T.z_int (by decide +kernel) (pa_cons (pe_op op_addU (pe_op op_addU (pe_op op_mul (pe_ix ix_seq (pv 0) pe_int (fun _ _ => rfl)) pe_int) (pe_op op_mul (pe_op op_addU (pv 3) pe_int) pe_int)) (pe_op op_mul (pe_ix ix_seq (pv 0) pe_int (fun _ _ => rfl)) pe_int)) pa_nil)) pe_int) (pg_sub (pv 0) pe_int set_list))
  (pss_one (ps_ret (pe_op op_mod (pe_op op_fdiv (pe_op op_mod (pe_callTy call_intU (by rfl) T.z_int (by decide +kernel) (pa_cons (pe_op op_addU (pe_op op_mul (pe_ix ix_seq (pv 0) pe_int (fun _ _ => rfl)) pe_int) (pe_ix ix_seq (pv 0) pe_int (fun _ _ => rfl))) pa_nil)) pe_int) pe_int) (pv 1)))))))))), ?_⟩
  dsimp only [K_nox]
  refine fs_run (fun ds M Φ Ψ hs => ?_) h
  obtain ⟨i, many, rfl, hm1, hm2, ⟨cs, p, l, sd, n, hM⟩, k⟩ := hs
  change DL.SD K _ _ _ [some (D.ptr i), some (D.int many), none, none] _ _
  have at_ints : (p : Int) < ((cs.map D.int).length : Int) → ∃ z, atI (cs.map D.int) (p : Int) = some (.int z) := fun hp => by
    rw [List.length_map] at hp
    have hp' : p < cs.length := by omega
    exact ⟨cs[p], atI_nat (by rw [List.getElem?_map, List.getElem?_eq_getElem hp']; rfl)⟩
  -- behind the first if the stream stands, too
  refine sd_cut (fun es' M' => es' = [some (D.ptr i), some (D.int many), none, none] ∧ Up M i M' ∧ Strm M' i) ?_ ?_
  · have no : ∀ {M' : List MO}, Up M i M' → Strm M' i → [some (D.ptr i), some (D.int many), none, none] = [some (D.ptr i), some (D.int many), none, none] ∧ Up M i M' ∧ Strm M' i := fun u s => ⟨rfl, u, s⟩
    have st : Strm M i := ⟨cs, p, l, sd, n, hM⟩
    repeat walk_at "xe"
    refine ifE (fun h0 => ?_) (fun _ => ?_)
    · repeat walk_at "xe"
      refine ifD (fun h1 => ?_) (fun _ => ?_)
      · obtain ⟨z, hz⟩ := at_ints h1
        repeat walk_at "xe"
        refine ifD (fun h2 => ?_) (fun _ => ?_)
        · repeat walk_at "xe"
          exact ⟨rfl, ((Up.refl M i).set _).set _, cs, p + 1, z, sd, n, set_at (set_at hM)⟩
        · repeat walk_at "xe"
          exact ⟨rfl, Up.refl M i, st⟩
      · repeat walk_at "xe"
        exact ⟨rfl, Up.refl M i, st⟩
    · repeat walk_at "xe"
      exact ⟨rfl, Up.refl M i, st⟩
  · rintro es' M1 ⟨rfl, u1, ⟨cs, p, l, sd, n, hM⟩⟩
    repeat walk_at "xe"
    refine ifD (fun h0 => ?_) (fun _ => ?_)
    · repeat walk_at "xe"
      exact .inl (k _ _ (Int.emod_nonneg _ (by omega)) (Int.emod_lt_of_pos _ hm1) (u1.set _) ⟨cs, p, _, sd, n, set_at hM⟩)
    · have at_ints : (p : Int) < ((cs.map D.int).length : Int) → ∃ z, atI (cs.map D.int) (p : Int) = some (.int z) := fun hp => by
        rw [List.length_map] at hp
        have hp' : p < cs.length := by omega
        exact ⟨cs[p], atI_nat (by rw [List.getElem?_map, List.getElem?_eq_getElem hp']; rfl)⟩
      refine sd_next (sd_seq (sd_asg (xe_int ?_)))
      refine sd_cut (fun es' M' => (∃ c : Int, es' = [some (D.ptr i), some (D.int many), none, some (D.int c)]) ∧ Up M i M' ∧ Strm M' i) ?_ ?_
      · repeat walk_at "xe"
        refine ifD (fun h1 => ?_) (fun _ => ?_)
        · obtain ⟨z, hz⟩ := at_ints h1
          repeat walk_at "xe"
          exact ⟨⟨z, rfl⟩, u1.set _, cs, p + 1, l, sd, n, set_at hM⟩
        · repeat walk_at "xe"
          exact ⟨⟨0, rfl⟩, u1, cs, p, l, sd, n, hM⟩
      · rintro es' M2 ⟨⟨c, rfl⟩, u2, ⟨cs, p, l, sd, n, hM⟩⟩
        repeat walk_at "xe"
        exact .inl (k _ _ (Int.emod_nonneg _ (by omega)) (Int.emod_lt_of_pos _ hm1) ((u2.set _).set _) ⟨cs, p, l, _, _, set_at (set_at hM)⟩)
end
end P93
namespace P93
open PySem L2 StX DL
local macro_rules | `(tactic| walk_at "lt") => `(tactic| first
  | assumption | omega | (simp only [List.length_set, List.length_append, List.length_cons, List.length_nil]; first | omega | exact at_lt (by assumption) | exact Nat.lt_of_lt_of_le (at_lt (by assumption)) (by omega)) | exact at_lt (by assumption))
local macro_rules | `(tactic| walk_at "ne") => `(tactic| first
  | assumption | exact Ne.symm (by assumption) | omega | (simp only [List.length_set, List.length_append, List.length_cons, List.length_nil]; omega))
local macro_rules | `(tactic| walk_at "mo") => `(tactic| first
  | assumption
  | ((refine' app_at ?hh ?ee); (case hh => first | rfl | omega | (simp only [List.length_set, List.length_append, List.length_cons, List.length_nil]; done) | (simp only [List.length_set, List.length_append, List.length_cons, List.length_nil]; omega)); (case ee => rfl))
  | ((refine' set_lt ?hh ?ee); (case hh => walk_at "lt"); (case ee => rfl))
  | exact set_ne (by walk_at "ne") (by walk_at "mo")
  | exact app_l (by walk_at "mo"))
local macro_rules | `(tactic| walk_at "x1") => `(tactic| first
  | (with_reducible first
    | refine sd_asg ?_ | refine sd_if ?_ | refine sd_ret ?_ | refine sd_drop ?_ | refine sd_next ?_ | refine sd_asgG ?_
    | refine xe_var rfl ?_ | refine xe_ty ?_ | refine xe_gl ?_ | refine xe_int ?_ | refine xe_str ?_ | refine xe_bl ?_ | refine xe_non ?_ | refine xe_op ?_ | refine xe_un ?_ | refine xe_cb ?_
    | refine xa_nil ?_ | refine xa_cons ?_ | refine xt_test ?_ | refine xt_and ?_ | refine xt_or ?_ | refine xt_not ?_ | refine xt_tru ?_ | refine xe_if ?_ | refine xe_andV ?_ | refine xe_orV ?_ | refine xe_notV ?_ | refine sd_fld ?_ | refine xe_fld ?_ | refine xe_meth ?_ | refine xe_bm0 ?_ | refine xe_chain ?_ | refine DL.xe_methE ?_ | refine xe_make ?_ | refine xe_sl ?_ | refine xp_none ?_ | refine xp_some ?_ | refine DL.xe_callE ?_ | refine DL.xe_callH ?_ | refine DL.xe_xf ?_ | refine xo_isN ?_ | refine xo_notN ?_
    | refine xo_addI ?_ | refine xo_i ?_ | refine xo_b ?_ | refine xu_i ?_ | refine xo_eqI ?_ | refine xo_neI ?_ | refine xo_eqS ?_ | refine xo_neS ?_
    | refine xc_intI ?_ | refine xc_intB ?_ | refine xe_call ?_
    | refine ⟨_, rfl, ?_⟩ | refine L2.iteF ?_ | refine L2.iteT ?_)
  | ((with_reducible refine' xo_ixL rfl ?k1 ?_); (case k1 => first | rfl | assumption))
  | ((with_reducible refine' xo_mulL ?k1 ?k2 ?_); (case k1 => omega); (case k2 => omega))
  | ((with_reducible refine' xo_mulR ?k1 ?k2 ?_); (case k1 => omega); (case k2 => omega))
  | ((with_reducible refine' xo_modP ?k1 ?_); (case k1 => omega))
  | ((with_reducible refine' xo_divP ?k1 ?k2 ?_); (case k1 => omega); (case k2 => omega))
  | ((with_reducible refine' xo_powP ?k1 ?k2 ?k3 ?_); (case k1 => decide); (case k2 => decide); (case k3 => decide))
  | ((with_reducible refine' xe_bm (xe_var rfl (And.intro (tyD_ptr ?k1) ?_))); (case k1 => walk_at "mo"))
  | ((with_reducible refine' xm_append ?k1 ?k2 ?_); (case k1 => walk_at "mo"); (case k2 => first | omega | (simp only [List.length_map]; omega)))
  | ((with_reducible refine' xo_ixL (litems_ptr ?k1) ?k2 ?_); (case k1 => walk_at "mo"); (case k2 => first | rfl | assumption))
  | ((with_reducible refine xg_setL ?_))
  | ((with_reducible refine' ⟨_, _, _, _, rfl, rfl, ?k1, ?k2, ?_⟩); (case k1 => walk_at "mo"); (case k2 => rfl))
  | ((with_reducible refine' xc_lenL rfl ?_))
  | ((with_reducible refine' xc_lenL (litems_ptr ?k1) ?_); (case k1 => walk_at "mo"))
  | ((with_reducible refine' ⟨_, _, _, rfl, ?k1, ?k2, ?k3, ?k4, ?_⟩); (case k1 => walk_at "mo"); (case k2 => assumption); (case k3 => assumption); (case k4 => first | decide | exact Nat.le_of_ble_eq_true rfl))
  | ((with_reducible refine' fldP ?k1 ?k2 ?k3 ?k4 ?_); (case k1 => walk_at "mo"); (case k2 => assumption); (case k3 => assumption); (case k4 => rfl))
  | ((with_reducible refine' methP ?k1 ?k2 ?_); (case k1 => walk_at "mo"); (case k2 => rfl))
  | ((with_reducible refine' xe_bm0 (xe_var rfl (And.intro (tyD_ptr ?k1) ?_))); (case k1 => walk_at "mo"))
  | ((with_reducible refine' And.intro (tyD_ptr ?k1) ?_); (case k1 => walk_at "mo"))
  | (with_reducible refine xe_bm ?_)
  | ((with_reducible refine' xm_popS ?k1 ?_); (case k1 => walk_at "mo"))
  | ((with_reducible refine' ifTru ?k1 ?_); (case k1 => rfl)) | ((with_reducible refine' ifFal ?k1 ?_); (case k1 => rfl))
  | (refine ⟨_, _, _, rfl, rfl, rfl, ?_⟩))
local macro_rules | `(tactic| walk_at "xe") => `(tactic| first
  | (with_reducible refine sd_seq ?_)
  | walk_at "x1")
/-- the law's texts -/
inductive Tx where | e | a | b | o
def Tx.s : Tx → Str
  | .e => "" | .a => "a" | .b => "b" | .o => "none"
/-- the law's states: numbers, texts, pairs -/
inductive S where
  | n (k : Int) | t (x : Tx) | p (k : Int) (x : Tx)
def S.d : S → D
  | .n k => .int k
  | .t x => .str x.s
  | .p k x => .tup [.int k, .str x.s]
def pr_pick : Pr := fun ds M Φ _ => ∃ i row, ds = [.ptr i, .lst row] ∧ 0 < row.length ∧ row.length < 1000000 ∧ Strm M i ∧ ∀ (k : Nat) d M', row[k]? = some d → Up M i M' → Strm M' i → Φ d M'
def pr_int : Pr := fun ds M Φ _ => ∃ k, ds = [.int k] ∧ Φ (.bl true) M
def pr_state : Pr := fun ds M Φ _ => ∃ i, ds = [.ptr i] ∧ Strm M i ∧ ∀ (s : S) M', Up M i M' → Strm M' i → Φ s.d M'
section
variable {P : Program} {w : World} {K : PySem.W.Frag} {mg : Str → Option Value} {base : Heap}
theorem sc_law_pick : FnScope ["s", "row"] ["s", "row"] (defScope s_law_pick) := ⟨rfl, rfl, rfl, by decide +kernel, rfl, by decide +kernel, by decide +kernel⟩
theorem ok_law_pick (T : Txt P K mg) : FnOk P w K mg base CX0 2 T.a_law_pick T.fd_law_pick ["s", "row"] (FS K pr_pick) := by
  refine T.F_law_pick.ok sc_law_pick (fs_len fun ds M Φ Ψ h => by obtain ⟨i, row, rfl, _⟩ := h; rfl) fun cdv A outer s H vs Q E hr h => ?_
  refine ⟨_, (pss_one (ps_ret (pe_ix ix_seq (pv 1) (pe_call (ok_law_draw T) (hr.mono (by decide)) rfl T.m_law_draw T.k_law_draw T.b_law_draw .nil pass0 (pa_cons (pv 0) (pa_cons (pe_callB call_lenU (by rfl) T.z_len PySem.boot_len (pa_cons (pv 1) pa_nil)) pa_nil))) (fun _ _ => rfl)))), ?_⟩
  dsimp only [K_nox]
  refine fs_run (fun ds M Φ Ψ hs => ?_) h
  obtain ⟨i, row, rfl, h0, h1, hS, k⟩ := hs
  change DL.SD K _ _ _ [some (.ptr i), some (.lst row)] _ _
  repeat walk_at "xe"
  refine ⟨i, (row.length : Int), rfl, by omega, by omega, hS, fun j M' j0 j1 hu hS' => ?_⟩
  have hj : j.toNat < row.length := by omega
  refine xo_ixL (x := .lst row) (d := row[j.toNat]) rfl ?_ ?_
  · exact atI_int j0 (List.getElem?_eq_getElem hj)
  · exact .inl (k _ _ _ (List.getElem?_eq_getElem hj) hu hS')
theorem sc_law_int : FnScope ["x"] ["x"] (defScope s_law_int) := ⟨rfl, rfl, rfl, by decide +kernel, rfl, by decide +kernel, by decide +kernel⟩
theorem okH_law_int {CX : CXT} (T : Txt P K mg) : L2H.FnH P w K mg base CX 1 T.a_law_int T.fd_law_int ["x"] (FS K pr_int) := by
  refine DLX.okH T.F_law_int sc_law_int (fs_len fun ds M Φ Ψ h => by obtain ⟨i, rfl, _⟩ := h; rfl) fun cdv A outer s H vs Q E p hot hr h => ?_
  refine ⟨_, (pss_one (ps_ret (pe_and (pe_callB call_isi (by rfl) T.z_isinstance PyProof.Rows.boot_isinstance (pa_cons (pv 0) (pa_cons (pe_bltn (v := .ty "int") rfl T.z_int (by decide +kernel) rfl) pa_nil))) (pe_one (pe_not (pe_callB call_isi (by rfl) T.z_isinstance PyProof.Rows.boot_isinstance (pa_cons (pv 0) (pa_cons (pe_bltn (v := .ty "bool") rfl T.z_bool (by decide +kernel) rfl) pa_nil)))))))), ?_⟩
  dsimp only [K_cxH]
  refine fs_run (fun ds M Φ Ψ hs => ?_) h
  obtain ⟨i, rfl, k⟩ := hs
  change DL.SD K _ _ _ [some (.int i)] _ _
  repeat walk_at "xe"
  refine xc_isi (.int i) (.ty _) (kit_ty (a := "int") (b := "int") (r := true) (by decide +kernel)) ?_
  repeat walk_at "xe"
  refine xc_isi (.int i) (.ty _) (kit_ty (a := "int") (b := "bool") (r := false) (by decide +kernel)) ?_
  repeat walk_at "xe"
  exact .inl k
theorem sc_law_state : FnScope ["s", "way"] ["s"] (defScope s_law_state) := ⟨rfl, rfl, rfl, by decide +kernel, rfl, by decide +kernel, by decide +kernel⟩
theorem ok_law_state (T : Txt P K mg) : FnOk P w K mg base CX0 3 T.a_law_state T.fd_law_state ["s"] (FS K pr_state) := by
  refine T.F_law_state.ok sc_law_state (fs_len fun ds M Φ Ψ h => by obtain ⟨i, rfl, _⟩ := h; rfl) fun cdv A outer s H vs Q E hr h => ?_
  refine ⟨_, (pss_cons (ps_set (i := 1) sc_law_state.nd rfl (Or.inl rfl) (pe_call (ok_law_draw T) (hr.mono (by decide)) rfl T.m_law_draw T.k_law_draw T.b_law_draw .nil pass0 (pa_cons (pv 0) (pa_cons pe_int pa_nil))))
  (pss_cons (ps_if (pt_cmpR (op_eqU hr.units) (pv 1) pe_int (nomark _))
  (pss_one (ps_ret (pe_call (ok_law_draw T) (hr.mono (by decide)) rfl T.m_law_draw T.k_law_draw T.b_law_draw .nil pass0 (pa_cons (pv 0) (pa_cons pe_int pa_nil)))))
  pss_nil)
  (pss_cons (ps_if (pt_cmpR (op_eqU hr.units) (pv 1) pe_int (nomark _))
  (pss_one (ps_ret (pe_call (ok_law_pick T) (hr.mono (by decide)) rfl T.m_law_pick T.k_law_pick T.b_law_pick .nil pass0 (pa_cons (pv 0) (pa_cons (pe_lst (pa_cons pe_str (pa_cons pe_str (pa_cons pe_str (pa_cons pe_str pa_nil))))) pa_nil)))))
  pss_nil)
  (pss_one (ps_ret (pe_tup (pa_cons (pe_call (ok_law_draw T) (hr.mono (by decide)) rfl T.m_law_draw T.k_law_draw T.b_law_draw .nil pass0 (pa_cons (pv 0) (pa_cons pe_int pa_nil))) (pa_cons (pe_call (ok_law_pick T) (hr.mono (by decide)) rfl T.m_law_pick T.k_law_pick T.b_law_pick .nil pass0 (pa_cons (pv 0) (pa_cons (pe_lst (pa_cons pe_str (pa_cons pe_str pa_nil))) pa_nil))) pa_nil)))))))), ?_⟩
  dsimp only [K_nox]
  refine fs_run (fun ds M Φ Ψ hs => ?_) h
  obtain ⟨i, rfl, hS, k⟩ := hs
  change DL.SD K _ _ _ [some (.ptr i), none] _ _
  repeat walk_at "xe"
  refine ⟨i, 3, rfl, by decide, by decide, hS, fun j M1 j0 j1 u1 hS1 => ?_⟩
  repeat walk_at "xe"
  refine ifE (fun h0 => ?_) (fun h0 => ?_)
  · repeat walk_at "xe"
    exact ⟨i, 4, rfl, by decide, by decide, hS1, fun j M2 j0 j1 u2 hS2 => .inl (k (.n j) _ (u1.trans u2) hS2)⟩
  · repeat walk_at "xe"
    refine ifE (fun h0 => ?_) (fun h0 => ?_)
    · repeat walk_at "xe"
      refine xe_lst ?_
      repeat walk_at "xe"
      refine ⟨by decide, ?_⟩
      repeat walk_at "xe"
      refine ⟨i, _, rfl, by decide, by decide, hS1, fun j d M2 hd u2 hS2 => ?_⟩
      obtain ⟨x, rfl⟩ : ∃ x : Tx, d = .str x.s := by
        match j, hd with
        | 0, hd => cases hd; exact ⟨.e, rfl⟩
        | 1, hd => cases hd; exact ⟨.a, rfl⟩
        | 2, hd => cases hd; exact ⟨.b, rfl⟩
        | 3, hd => cases hd; exact ⟨.o, rfl⟩
      exact .inl (k (.t x) _ (u1.trans u2) hS2)
    · repeat walk_at "xe"
      refine xe_tup ?_
      repeat walk_at "xe"
      refine ⟨i, 2, rfl, by decide, by decide, hS1, fun j M2 j0 j1 u2 hS2 => ?_⟩
      repeat walk_at "xe"
      refine xe_lst ?_
      repeat walk_at "xe"
      refine ⟨by decide, ?_⟩
      repeat walk_at "xe"
      refine ⟨i, _, rfl, by decide, by decide, hS2, fun j' d M3 hd u3 hS3 => ?_⟩
      obtain ⟨x, rfl⟩ : ∃ x : Tx, d = .str x.s := by
        match j', hd with
        | 0, hd => cases hd; exact ⟨.a, rfl⟩
        | 1, hd => cases hd; exact ⟨.e, rfl⟩
      repeat walk_at "xe"
      refine ⟨by simp, .inl (k (.p j x) _ ((u1.trans u2).trans u3) hS3)⟩
end
end P93
namespace P93
open PySem L2 StX DL
local macro_rules | `(tactic| walk_at "lt") => `(tactic| first
  | assumption | omega | (simp only [List.length_set, List.length_append, List.length_cons, List.length_nil]; first | omega | exact at_lt (by assumption) | exact Nat.lt_of_lt_of_le (at_lt (by assumption)) (by omega)) | exact at_lt (by assumption))
local macro_rules | `(tactic| walk_at "ne") => `(tactic| first
  | assumption | exact Ne.symm (by assumption) | omega | (simp only [List.length_set, List.length_append, List.length_cons, List.length_nil]; omega))
local macro_rules | `(tactic| walk_at "mo") => `(tactic| first
  | assumption
  | ((refine' app_at ?hh ?ee); (case hh => first | rfl | omega | (simp only [List.length_set, List.length_append, List.length_cons, List.length_nil]; done) | (simp only [List.length_set, List.length_append, List.length_cons, List.length_nil]; omega)); (case ee => rfl))
  | ((refine' set_lt ?hh ?ee); (case hh => walk_at "lt"); (case ee => rfl))
  | exact set_ne (by walk_at "ne") (by walk_at "mo")
  | exact app_l (by walk_at "mo"))
local macro_rules | `(tactic| walk_at "x1") => `(tactic| first
  | (with_reducible first
    | refine sd_asg ?_ | refine sd_if ?_ | refine sd_ret ?_ | refine sd_drop ?_ | refine sd_next ?_ | refine sd_asgG ?_
    | refine xe_var rfl ?_ | refine xe_ty ?_ | refine xe_gl ?_ | refine xe_int ?_ | refine xe_str ?_ | refine xe_bl ?_ | refine xe_non ?_ | refine xe_op ?_ | refine xe_un ?_ | refine xe_cb ?_
    | refine xa_nil ?_ | refine xa_cons ?_ | refine xt_test ?_ | refine xt_and ?_ | refine xt_or ?_ | refine xt_not ?_ | refine xt_tru ?_ | refine xe_if ?_ | refine xe_andV ?_ | refine xe_orV ?_ | refine xe_notV ?_ | refine sd_fld ?_ | refine xe_fld ?_ | refine xe_meth ?_ | refine xe_bm0 ?_ | refine xe_chain ?_ | refine DL.xe_methE ?_ | refine xe_make ?_ | refine xe_sl ?_ | refine xp_none ?_ | refine xp_some ?_ | refine DL.xe_callE ?_ | refine DL.xe_callH ?_ | refine DL.xe_xf ?_ | refine xo_isN ?_ | refine xo_notN ?_
    | refine xo_addI ?_ | refine xo_i ?_ | refine xo_b ?_ | refine xu_i ?_ | refine xo_eqI ?_ | refine xo_neI ?_ | refine xo_eqS ?_ | refine xo_neS ?_
    | refine xc_intI ?_ | refine xc_intB ?_ | refine xe_call ?_
    | refine ⟨_, rfl, ?_⟩ | refine L2.iteF ?_ | refine L2.iteT ?_)
  | ((with_reducible refine' xo_ixL rfl ?k1 ?_); (case k1 => first | rfl | assumption))
  | ((with_reducible refine' xo_mulL ?k1 ?k2 ?_); (case k1 => omega); (case k2 => omega))
  | ((with_reducible refine' xo_mulR ?k1 ?k2 ?_); (case k1 => omega); (case k2 => omega))
  | ((with_reducible refine' xo_modP ?k1 ?_); (case k1 => omega))
  | ((with_reducible refine' xo_divP ?k1 ?k2 ?_); (case k1 => omega); (case k2 => omega))
  | ((with_reducible refine' xo_powP ?k1 ?k2 ?k3 ?_); (case k1 => decide); (case k2 => decide); (case k3 => decide))
  | ((with_reducible refine' xe_bm (xe_var rfl (And.intro (tyD_ptr ?k1) ?_))); (case k1 => walk_at "mo"))
  | ((with_reducible refine' xm_append ?k1 ?k2 ?_); (case k1 => walk_at "mo"); (case k2 => first | omega | (simp only [List.length_map]; omega)))
  | ((with_reducible refine' xo_ixL (litems_ptr ?k1) ?k2 ?_); (case k1 => walk_at "mo"); (case k2 => first | rfl | assumption))
  | ((with_reducible refine xg_setL ?_))
  | ((with_reducible refine' ⟨_, _, _, _, rfl, rfl, ?k1, ?k2, ?_⟩); (case k1 => walk_at "mo"); (case k2 => rfl))
  | ((with_reducible refine' xc_lenL rfl ?_))
  | ((with_reducible refine' xc_lenL (litems_ptr ?k1) ?_); (case k1 => walk_at "mo"))
  | ((with_reducible refine' ⟨_, _, _, rfl, ?k1, ?k2, ?k3, ?k4, ?_⟩); (case k1 => walk_at "mo"); (case k2 => assumption); (case k3 => assumption); (case k4 => first | decide | exact Nat.le_of_ble_eq_true rfl))
  | ((with_reducible refine' fldP ?k1 ?k2 ?k3 ?k4 ?_); (case k1 => walk_at "mo"); (case k2 => assumption); (case k3 => assumption); (case k4 => rfl))
  | ((with_reducible refine' methP ?k1 ?k2 ?_); (case k1 => walk_at "mo"); (case k2 => rfl))
  | ((with_reducible refine' xe_bm0 (xe_var rfl (And.intro (tyD_ptr ?k1) ?_))); (case k1 => walk_at "mo"))
  | ((with_reducible refine' And.intro (tyD_ptr ?k1) ?_); (case k1 => walk_at "mo"))
  | (with_reducible refine xe_bm ?_)
  | ((with_reducible refine' xm_popS ?k1 ?_); (case k1 => walk_at "mo"))
  | ((with_reducible refine' ifTru ?k1 ?_); (case k1 => rfl)) | ((with_reducible refine' ifFal ?k1 ?_); (case k1 => rfl))
  | (refine ⟨_, _, _, rfl, rfl, rfl, ?_⟩))
local macro_rules | `(tactic| walk_at "xe") => `(tactic| first
  | (with_reducible refine sd_seq ?_)
  | walk_at "x1")
def S.y : S → PyData
  | .n k => .int k
  | .t x => .str x.s
  | .p k x => .tuple [.int k, .str x.s]
theorem fit_s (s : S) : Fit 1 s.y := by
  have tx : ∀ {n : Nat} (x : Tx), Fit n (.str x.s) := fun x => fit_str (by cases x <;> decide +kernel)
  cases s with
  | n k => exact fit_int k
  | t x => exact tx x
  | p k x =>
    refine fit_tuple fun d h => ?_
    rcases List.mem_cons.mp h with rfl | h
    · exact fit_int k
    · rcases List.mem_cons.mp h with rfl | h
      · exact tx x
      · cases h
theorem fit_ss (ss : List S) : Fit 2 (.list (ss.map S.y)) := fit_list fun d h => by
  obtain ⟨s, _, rfl⟩ := List.mem_map.mp h
  exact fit_s s
theorem py_d (s : S) : py s.d = some s.y := by cases s <;> rfl
theorem pys_d : ∀ ss : List S, pys (ss.map S.d) = some (ss.map S.y)
  | [] => rfl
  | s :: r => by
    show (py s.d).bind (fun p => (pys (r.map S.d)).map fun ps => p :: ps) = _
    rw [py_d, pys_d r]
    rfl
def hist (C : Addr) (st : D) (p f : Nat) : MO := .ins C [("state", st), ("past", .ptr p), ("future", .ptr f)]
structure Hi (C : Addr) (M : List MO) (h p f : Nat) (past : List S) (st : S) (fut : List S) : Prop where
  ob : M[h]? = some (hist C st.d p f)
  pa : M[p]? = some (.lst (past.map S.d))
  fu : M[f]? = some (.lst (fut.map S.d))
  ne : p ≠ f
  b1 : past.length ≤ 1000
  b2 : fut.length ≤ 1000
theorem Hi.hp {C : Addr} {M : List MO} {h p f : Nat} {past fut : List S} {st : S} (x : Hi C M h p f past st fut) : h ≠ p := fun e => by
  subst e
  have q := x.ob.symm.trans x.pa
  cases q
theorem Hi.hf {C : Addr} {M : List MO} {h p f : Nat} {past fut : List S} {st : S} (x : Hi C M h p f past st fut) : h ≠ f := fun e => by
  subst e
  have q := x.ob.symm.trans x.fu
  cases q
/-- all but the objects hs stand as they were -/
def Keep (hs : List Nat) (M M' : List MO) : Prop := ∀ (j : Nat) m, j ∉ hs → M[j]? = some m → M'[j]? = some m
def pr_hinit (C : Addr) : Pr := fun ds M Φ _ => ∃ h st, ds = [.ptr h, S.d st] ∧ M[h]? = some (.ins C []) ∧ ∀ p f M', M.length ≤ p → M.length ≤ f → Hi C M' h p f [] st [] → Keep [h] M M' → Φ .non M'
def pr_move (C : Addr) : Pr := fun ds M Φ _ => ∃ h p f past st fut st', ds = [.ptr h, S.d st'] ∧ Hi C M h p f past st fut ∧ past.length < 1000 ∧ ∀ f' M', M.length ≤ f' → Hi C M' h p f' (past ++ [st]) st' [] → Keep [h, p] M M' → Φ .non M'
def pr_undo (C CN : Addr) : Pr := fun ds M Φ Ψ => ∃ h p f past st fut, ds = [.ptr h] ∧ Hi C M h p f past st fut ∧ fut.length < 1000 ∧ (past = [] → Ψ CN [] M) ∧ ∀ past' x M', past = past' ++ [x] → Hi C M' h p f past' x (fut ++ [st]) → Keep [h, p, f] M M' → Φ .non M'
def pr_redo (C CN : Addr) : Pr := fun ds M Φ Ψ => ∃ h p f past st fut, ds = [.ptr h] ∧ Hi C M h p f past st fut ∧ past.length < 1000 ∧ (fut = [] → Ψ CN [] M) ∧ ∀ fut' x M', fut = fut' ++ [x] → Hi C M' h p f (past ++ [st]) x fut' → Keep [h, p, f] M M' → Φ .non M'
def pr_versions (C : Addr) : Pr := fun ds M Φ _ => ∃ h p f past st fut, ds = [.ptr h] ∧ Hi C M h p f past st fut ∧ Φ (.ptr M.length) (M ++ [.lst ((past ++ [st]).map S.d)])
def pr_earlier (C CS : Addr) : Pr := fun ds M Φ Ψ => ∃ h p f past st fut n, ds = [.ptr h, .int n] ∧ Hi C M h p f past st fut ∧ n.natAbs ≤ 1500 ∧ (¬ (0 ≤ n ∧ n ≤ past.length) → Ψ CS [("number", .int n)] M) ∧
  (0 ≤ n → n ≤ past.length → ∀ x J, (past ++ [st])[(past.length - n).toNat]? = some x → Φ (S.d x) (M ++ J))
section
variable {P : Program} {w : World} {K : PySem.W.Frag} {mg : Str → Option Value} {base : Heap}
theorem sc_History_init : FnScope ["self", "state"] ["self", "state"] (defScope s_History_init) := ⟨rfl, rfl, rfl, by decide +kernel, rfl, by decide +kernel, by decide +kernel⟩
theorem ok_History_init (T : Txt P K mg) : FnOk P w K mg base CX0 1 T.a_History_init T.fd_History_init ["self", "state"] (FS K (pr_hinit T.C_History)) := by
  refine T.F_History_init.ok sc_History_init (fs_len fun ds M Φ Ψ h => by obtain ⟨h, st, rfl, _⟩ := h; rfl) fun cdv A outer s H vs Q E hr h => ?_
  refine ⟨_, (pss_cons (ps_fld (pv 0) (pv 1) rfl)
  (pss_cons (ps_fld (pv 0) (pe_lst pa_nil) rfl)
  (pss_one (ps_fld (pv 0) (pe_lst pa_nil) rfl)))), ?_⟩
  dsimp only [K_nox]
  refine fs_run (fun ds M Φ Ψ hs => ?_) h
  obtain ⟨h, st, rfl, hM, k⟩ := hs
  change DL.SD K _ _ _ [some (.ptr h), some st.d] _ _
  have hl := at_lt hM
  have c1 := T.c_History
  have n1 := T.n_History_state
  have n2 := T.n_History_past
  have n3 := T.n_History_future
  repeat walk_at "xe"
  refine xe_lstM ?_
  repeat walk_at "xe"
  refine ⟨by decide, ?_⟩
  repeat walk_at "xe"
  refine xe_lstM ?_
  repeat walk_at "xe"
  refine ⟨by decide, ?_⟩
  repeat walk_at "xe"
  repeat walk_at "xe"
  simp only [List.length_set, List.length_append, List.length_cons, List.length_nil, Nat.zero_add]
  refine .inl (k M.length (M.length + 1) _ (Nat.le_refl _) (by omega) ⟨?_, ?_, ?_, by omega, by decide, by decide⟩ fun j m hj e => ?_)
  · exact set_at (by walk_at "mo")
  · walk_at "mo"
  · walk_at "mo"
  · have hj : j ≠ h := fun z => hj (by simp [z])
    walk_at "mo"

theorem sc_History_move : FnScope ["self", "state"] ["self", "state"] (defScope s_History_move) := ⟨rfl, rfl, rfl, by decide +kernel, rfl, by decide +kernel, by decide +kernel⟩
theorem ok_History_move (T : Txt P K mg) : FnOk P w K mg base CX0 1 T.a_History_move T.fd_History_move ["self", "state"] (FS K (pr_move T.C_History)) := by
  refine T.F_History_move.ok sc_History_move (fs_len fun ds M Φ Ψ h => by obtain ⟨h, p, f, past, st, fut, st', rfl, _⟩ := h; rfl) fun cdv A outer s H vs Q E hr h => ?_
  refine ⟨_, (pss_cons (ps_expr (pe_bm PySem.F.plainAttrs_list PySem.F.slot_list_append PySem.F.type_list_append mt_append (pe_fld (pv 0) rfl) (pa_cons (pe_fld (pv 0) rfl) pa_nil)))
  (pss_cons (ps_fld (pv 0) (pe_lst pa_nil) rfl)
  (pss_one (ps_fld (pv 0) (pv 1) rfl)))), ?_⟩
  dsimp only [K_nox]
  refine fs_run (fun ds M Φ Ψ hs => ?_) h
  obtain ⟨h, p, f, past, st, fut, st', rfl, hi, hb, k⟩ := hs
  change DL.SD K _ _ _ [some (.ptr h), some st'.d] _ _
  obtain ⟨ob, pa, fu, ne, b1, b2⟩ := hi
  have hp : h ≠ p := Hi.hp ⟨ob, pa, fu, ne, b1, b2⟩
  have hf : h ≠ f := Hi.hf ⟨ob, pa, fu, ne, b1, b2⟩
  have l1 := at_lt ob
  have l2 := at_lt pa
  have l3 := at_lt fu
  have c1 := T.c_History
  have n1 := T.n_History_state
  have n2 := T.n_History_past
  have n3 := T.n_History_future
  unfold hist at ob
  refine sd_seq (sd_drop (xe_bm ?_))
  repeat walk_at "xe"
  refine xe_lstM ?_
  repeat walk_at "xe"
  refine ⟨by decide, ?_⟩
  repeat walk_at "xe"
  refine .inl (k M.length _ (Nat.le_refl _) ⟨?_, ?_, ?_, by omega, by simp; omega, by decide⟩ fun j m hj e => ?_)
  · unfold hist
    simp only [List.length_set]
    walk_at "mo"
  · rw [List.map_append]
    walk_at "mo"
  · walk_at "mo"
  · have h1 : j ≠ h := fun z => hj (by simp [z])
    have h2 : j ≠ p := fun z => hj (by simp [z])
    walk_at "mo"

theorem emp_map {α β : Type} (f : α → β) (l : List α) : (l.map f).isEmpty = l.isEmpty := by cases l <;> rfl
theorem sc_History_undo : FnScope ["self"] ["self"] (defScope s_History_undo) := ⟨rfl, rfl, rfl, by decide +kernel, rfl, by decide +kernel, by decide +kernel⟩
theorem ok_History_undo (T : Txt P K mg) : FnOk P w K mg base (L2N.CX P w) 1 T.a_History_undo T.fd_History_undo ["self"] (FS K (pr_undo T.C_History T.C_NothingLeft)) := by
  refine DLX.okN T.F_History_undo sc_History_undo (fs_len fun ds M Φ Ψ h => by obtain ⟨h, p, f, past, st, fut, rfl, _⟩ := h; rfl) fun cdv A outer s H vs Q E hr h => ?_
  refine ⟨_, (pss_cons (ps_if (pt_cmpR (op_eqU hr.units) (pe_fld (pv 0) rfl) (pe_lst pa_nil) (nomark _))
  (pss_one (L2N.ps_raise rfl (L2N.takes_of rfl rfl rfl rfl) (L2N.pmk_own PySem.F.excBase_ValueError T.x_NothingLeft T.m_NothingLeft T.k_NothingLeft (raises_own T.e_NothingLeft.hs T.y_NothingLeft) rfl)))
  pss_nil)
  (pss_cons (ps_expr (pe_bm PySem.F.plainAttrs_list PySem.F.slot_list_append PySem.F.type_list_append mt_append (pe_fld (pv 0) rfl) (pa_cons (pe_fld (pv 0) rfl) pa_nil)))
  (pss_one (ps_fld (pv 0) (pe_bm0 PySem.F.plainAttrs_list PySem.F.slot_list_pop PySem.F.type_list_pop mt_pop (pe_fld (pv 0) rfl)) rfl)))), ?_⟩
  dsimp only [K_cx]
  refine fs_run (fun ds M Φ Ψ hs => ?_) h
  obtain ⟨h, p, f, past, st, fut, rfl, hi, hb, kx, k⟩ := hs
  change DL.SD K _ _ _ [some (.ptr h)] _ _
  obtain ⟨ob, pa, fu, ne, b1, b2⟩ := hi
  have hp : h ≠ p := Hi.hp ⟨ob, pa, fu, ne, b1, b2⟩
  have hf : h ≠ f := Hi.hf ⟨ob, pa, fu, ne, b1, b2⟩
  have l1 := at_lt ob
  have l2 := at_lt pa
  have l3 := at_lt fu
  have c1 := T.c_History
  have n1 := T.n_History_state
  have n2 := T.n_History_past
  have n3 := T.n_History_future
  unfold hist at ob
  repeat walk_at "xe"
  refine xe_lst ?_
  repeat walk_at "xe"
  refine ⟨by decide, ?_⟩
  refine xo_eqNil (pyM_ptr pa (pys_d past)) (fit_ss past) (by decide) ?_
  repeat walk_at "xe"
  rw [emp_map]
  refine ifB (fun h0 => ?_) (fun h0 => ?_)
  · refine sd_raise0 (kx (List.isEmpty_iff.mp h0))
  · obtain ⟨past', x, rfl⟩ : ∃ past' x, past = past' ++ [x] := by
      rcases List.eq_nil_or_concat past with e | ⟨q, x, e⟩
      · rw [e] at h0; cases h0
      · exact ⟨q, x, by simpa using e⟩
    rw [List.map_append] at pa
    repeat walk_at "xe"
    simp only [List.length_append, List.length_cons, List.length_nil] at b1
    refine .inl (k past' x _ rfl ⟨?_, ?_, ?_, ne, by omega, by simp; omega⟩ fun j m hj e => ?_)
    · unfold hist
      walk_at "mo"
    · walk_at "mo"
    · rw [List.map_append]
      walk_at "mo"
    · have h1 : j ≠ h := fun z => hj (by simp [z])
      have h2 : j ≠ p := fun z => hj (by simp [z])
      have h3 : j ≠ f := fun z => hj (by simp [z])
      walk_at "mo"
theorem sc_History_redo : FnScope ["self"] ["self"] (defScope s_History_redo) := ⟨rfl, rfl, rfl, by decide +kernel, rfl, by decide +kernel, by decide +kernel⟩
theorem ok_History_redo (T : Txt P K mg) : FnOk P w K mg base (L2N.CX P w) 1 T.a_History_redo T.fd_History_redo ["self"] (FS K (pr_redo T.C_History T.C_NothingLeft)) := by
  refine DLX.okN T.F_History_redo sc_History_redo (fs_len fun ds M Φ Ψ h => by obtain ⟨h, p, f, past, st, fut, rfl, _⟩ := h; rfl) fun cdv A outer s H vs Q E hr h => ?_
  refine ⟨_, (pss_cons (ps_if (pt_cmpR (op_eqU hr.units) (pe_fld (pv 0) rfl) (pe_lst pa_nil) (nomark _))
  (pss_one (L2N.ps_raise rfl (L2N.takes_of rfl rfl rfl rfl) (L2N.pmk_own PySem.F.excBase_ValueError T.x_NothingLeft T.m_NothingLeft T.k_NothingLeft (raises_own T.e_NothingLeft.hs T.y_NothingLeft) rfl)))
  pss_nil)
  (pss_cons (ps_expr (pe_bm PySem.F.plainAttrs_list PySem.F.slot_list_append PySem.F.type_list_append mt_append (pe_fld (pv 0) rfl) (pa_cons (pe_fld (pv 0) rfl) pa_nil)))
  (pss_one (ps_fld (pv 0) (pe_bm0 PySem.F.plainAttrs_list PySem.F.slot_list_pop PySem.F.type_list_pop mt_pop (pe_fld (pv 0) rfl)) rfl)))), ?_⟩
  dsimp only [K_cx]
  refine fs_run (fun ds M Φ Ψ hs => ?_) h
  obtain ⟨h, p, f, past, st, fut, rfl, hi, hb, kx, k⟩ := hs
  change DL.SD K _ _ _ [some (.ptr h)] _ _
  obtain ⟨ob, pa, fu, ne, b1, b2⟩ := hi
  have hp : h ≠ p := Hi.hp ⟨ob, pa, fu, ne, b1, b2⟩
  have hf : h ≠ f := Hi.hf ⟨ob, pa, fu, ne, b1, b2⟩
  have l1 := at_lt ob
  have l2 := at_lt pa
  have l3 := at_lt fu
  have c1 := T.c_History
  have n1 := T.n_History_state
  have n2 := T.n_History_past
  have n3 := T.n_History_future
  unfold hist at ob
  repeat walk_at "xe"
  refine xe_lst ?_
  repeat walk_at "xe"
  refine ⟨by decide, ?_⟩
  refine xo_eqNil (pyM_ptr fu (pys_d fut)) (fit_ss fut) (by decide) ?_
  repeat walk_at "xe"
  rw [emp_map]
  refine ifB (fun h0 => ?_) (fun h0 => ?_)
  · refine sd_raise0 (kx (List.isEmpty_iff.mp h0))
  · obtain ⟨fut', x, rfl⟩ : ∃ past' x, fut = past' ++ [x] := by
      rcases List.eq_nil_or_concat fut with e | ⟨q, x, e⟩
      · rw [e] at h0; cases h0
      · exact ⟨q, x, by simpa using e⟩
    rw [List.map_append] at fu
    repeat walk_at "xe"
    simp only [List.length_append, List.length_cons, List.length_nil] at b2
    refine .inl (k fut' x _ rfl ⟨?_, ?_, ?_, ne, by simp; omega, by omega⟩ fun j m hj e => ?_)
    · unfold hist
      walk_at "mo"
    · rw [List.map_append]
      walk_at "mo"
    · walk_at "mo"
    · have h1 : j ≠ h := fun z => hj (by simp [z])
      have h2 : j ≠ p := fun z => hj (by simp [z])
      have h3 : j ≠ f := fun z => hj (by simp [z])
      walk_at "mo"
end
end P93
namespace P93
open PySem L2 StX DL
local macro_rules | `(tactic| walk_at "lt") => `(tactic| first
  | assumption | omega | (simp only [List.length_set, List.length_append, List.length_cons, List.length_nil]; first | omega | exact at_lt (by assumption) | exact Nat.lt_of_lt_of_le (at_lt (by assumption)) (by omega)) | exact at_lt (by assumption))
local macro_rules | `(tactic| walk_at "ne") => `(tactic| first
  | assumption | exact Ne.symm (by assumption) | omega | (simp only [List.length_set, List.length_append, List.length_cons, List.length_nil]; omega))
local macro_rules | `(tactic| walk_at "mo") => `(tactic| first
  | assumption
  | ((refine' app_at ?hh ?ee); (case hh => first | rfl | omega | (simp only [List.length_set, List.length_append, List.length_cons, List.length_nil]; done) | (simp only [List.length_set, List.length_append, List.length_cons, List.length_nil]; omega)); (case ee => rfl))
  | ((refine' set_lt ?hh ?ee); (case hh => walk_at "lt"); (case ee => rfl))
  | exact set_ne (by walk_at "ne") (by walk_at "mo")
  | exact app_l (by walk_at "mo"))
local macro_rules | `(tactic| walk_at "x1") => `(tactic| first
  | (with_reducible first
    | refine sd_asg ?_ | refine sd_if ?_ | refine sd_ret ?_ | refine sd_drop ?_ | refine sd_next ?_ | refine sd_asgG ?_
    | refine xe_var rfl ?_ | refine xe_ty ?_ | refine xe_gl ?_ | refine xe_int ?_ | refine xe_str ?_ | refine xe_bl ?_ | refine xe_non ?_ | refine xe_op ?_ | refine xe_un ?_ | refine xe_cb ?_
    | refine xa_nil ?_ | refine xa_cons ?_ | refine xt_test ?_ | refine xt_and ?_ | refine xt_or ?_ | refine xt_not ?_ | refine xt_tru ?_ | refine xe_if ?_ | refine xe_andV ?_ | refine xe_orV ?_ | refine xe_notV ?_ | refine sd_fld ?_ | refine xe_fld ?_ | refine xe_meth ?_ | refine xe_bm0 ?_ | refine xe_chain ?_ | refine DL.xe_methE ?_ | refine xe_make ?_ | refine xe_sl ?_ | refine xp_none ?_ | refine xp_some ?_ | refine DL.xe_callE ?_ | refine DL.xe_callH ?_ | refine DL.xe_xf ?_ | refine xo_isN ?_ | refine xo_notN ?_
    | refine xo_addI ?_ | refine xo_i ?_ | refine xo_b ?_ | refine xu_i ?_ | refine xo_eqI ?_ | refine xo_neI ?_ | refine xo_eqS ?_ | refine xo_neS ?_
    | refine xc_intI ?_ | refine xc_intB ?_ | refine xe_call ?_
    | refine ⟨_, rfl, ?_⟩ | refine L2.iteF ?_ | refine L2.iteT ?_)
  | ((with_reducible refine' xo_ixL rfl ?k1 ?_); (case k1 => first | rfl | assumption))
  | ((with_reducible refine' xo_mulL ?k1 ?k2 ?_); (case k1 => omega); (case k2 => omega))
  | ((with_reducible refine' xo_mulR ?k1 ?k2 ?_); (case k1 => omega); (case k2 => omega))
  | ((with_reducible refine' xo_modP ?k1 ?_); (case k1 => omega))
  | ((with_reducible refine' xo_divP ?k1 ?k2 ?_); (case k1 => omega); (case k2 => omega))
  | ((with_reducible refine' xo_powP ?k1 ?k2 ?k3 ?_); (case k1 => decide); (case k2 => decide); (case k3 => decide))
  | ((with_reducible refine' xe_bm (xe_var rfl (And.intro (tyD_ptr ?k1) ?_))); (case k1 => walk_at "mo"))
  | ((with_reducible refine' xm_append ?k1 ?k2 ?_); (case k1 => walk_at "mo"); (case k2 => first | omega | (simp only [List.length_map]; omega)))
  | ((with_reducible refine' xo_ixL (litems_ptr ?k1) ?k2 ?_); (case k1 => walk_at "mo"); (case k2 => first | rfl | assumption))
  | ((with_reducible refine xg_setL ?_))
  | ((with_reducible refine' ⟨_, _, _, _, rfl, rfl, ?k1, ?k2, ?_⟩); (case k1 => walk_at "mo"); (case k2 => rfl))
  | ((with_reducible refine' xc_lenL rfl ?_))
  | ((with_reducible refine' xc_lenL (litems_ptr ?k1) ?_); (case k1 => walk_at "mo"))
  | ((with_reducible refine' ⟨_, _, _, rfl, ?k1, ?k2, ?k3, ?k4, ?_⟩); (case k1 => walk_at "mo"); (case k2 => assumption); (case k3 => assumption); (case k4 => first | decide | exact Nat.le_of_ble_eq_true rfl))
  | ((with_reducible refine' fldP ?k1 ?k2 ?k3 ?k4 ?_); (case k1 => walk_at "mo"); (case k2 => assumption); (case k3 => assumption); (case k4 => rfl))
  | ((with_reducible refine' methP ?k1 ?k2 ?_); (case k1 => walk_at "mo"); (case k2 => rfl))
  | ((with_reducible refine' xe_bm0 (xe_var rfl (And.intro (tyD_ptr ?k1) ?_))); (case k1 => walk_at "mo"))
  | ((with_reducible refine' And.intro (tyD_ptr ?k1) ?_); (case k1 => walk_at "mo"))
  | (with_reducible refine xe_bm ?_)
  | ((with_reducible refine' xm_popS ?k1 ?_); (case k1 => walk_at "mo"))
  | ((with_reducible refine' ifTru ?k1 ?_); (case k1 => rfl)) | ((with_reducible refine' ifFal ?k1 ?_); (case k1 => rfl))
  | (refine ⟨_, _, _, rfl, rfl, rfl, ?_⟩))
local macro_rules | `(tactic| walk_at "xe") => `(tactic| first
  | (with_reducible refine sd_seq ?_)
  | walk_at "x1")

def sp_NoSuch (C : Addr) : Sp := DLX.spX C 1 (fun ys => ∃ i : Int, ys = [.int i] ∧ i.natAbs ≤ 1500) (fun ys => [("number", ys.headD .non)])
section
variable {P : Program} {w : World} {K : PySem.W.Frag} {mg : Str → Option Value} {base : Heap}
theorem sc_NoSuch_init : NdefX.NScope ["self", "number", "__class__"] ["self", "number"] ["__class__"] (defScope s_NoSuch_init) := NdefX.nscope_by (by decide +kernel)
theorem ok_NoSuch_init (T : Txt P K mg) : FnOk P w K mg base CX0 1 T.a_NoSuch_init T.fd_NoSuch_init ["self", "number"] (sp_NoSuch T.C_NoSuch) := by
  refine DLX.fnok_super (N := ["self", "number", "__class__"]) (F := nf_NoSuch_init T.cc_NoSuch_init T.co_NoSuch_init) T.S_NoSuch ?ns rfl rfl rfl rfl ?hb (fun _ => rfl) (fun L => ⟨_, rfl⟩) (fun _ => rfl) ?len ?b
  case ns => exact sc_NoSuch_init
  case hb => exact fun doc pm ctv us hl => match us, hl with | [_, _], _ => rfl
  case len =>
    rintro vs H Q E ⟨a, ys, rfl, hl, _⟩
    simp [hl]
  case b =>
    rintro A outer s H vs Q E hr ⟨a, ys, rfl, hl, ⟨i, rfl, hi⟩, ha, k⟩
    refine ⟨_, _, pe_op op_addU pe_str (pe_callTy call_strU (by rfl) T.z_str (by decide +kernel) (pa_cons (pv 1) pa_nil)), pss_one (ps_ost (pv 0) (pv 1)), a, rfl, ha, ?_⟩
    dsimp only [K_ncx]
    have hlg : i.natAbs.log2 < 1920 := by
      have := Nat.log2_le_self i.natAbs
      omega
    have h1 := PyProof.Rows.int_text_len_1921 hlg
    refine ⟨V.int i, rfl, i, rfl, hlg, .inr (.inl ⟨_, _, rfl, rfl, sz_ok (Nat.le_trans (Nat.add_le_add_left h1 _) (by decide +kernel)), rfl, ha, V.int i, rfl, V.ref a, rfl, a, T.C_NoSuch, rfl, T.S_NoSuch.T, T.n_NoSuch_number, .inl ⟨ha, fun dx hd ne => k dx _ hd ne rfl⟩⟩)⟩
theorem sc_History_versions : FnScope ["self"] ["self"] (defScope s_History_versions) := ⟨rfl, rfl, rfl, by decide +kernel, rfl, by decide +kernel, by decide +kernel⟩
theorem ok_History_versions (T : Txt P K mg) : FnOk P w K mg base CX0 1 T.a_History_versions T.fd_History_versions ["self"] (FS K (pr_versions T.C_History)) := by
  refine T.F_History_versions.ok sc_History_versions (fs_len fun ds M Φ Ψ h => by obtain ⟨h, p, f, past, st, fut, rfl, _⟩ := h; rfl) fun cdv A outer s H vs Q E hr h => ?_
  refine ⟨_, (pss_one (ps_ret (pe_lst (pa_star (pe_fld (pv 0) rfl) (pa_cons (pe_fld (pv 0) rfl) pa_nil))))), ?_⟩
  dsimp only [K_nox]
  refine fs_run (fun ds M Φ Ψ hs => ?_) h
  obtain ⟨h, p, f, past, st, fut, rfl, hi, k⟩ := hs
  change DL.SD K _ _ _ [some (.ptr h)] _ _
  obtain ⟨ob, pa, fu, ne, b1, b2⟩ := hi
  have c1 := T.c_History
  have n1 := T.n_History_state
  have n2 := T.n_History_past
  unfold hist at ob
  refine sd_ret (xe_lstM (xa_star ?_))
  repeat walk_at "xe"
  refine ⟨_, .inl (litems_ptr pa), ?_⟩
  repeat walk_at "xe"
  refine ⟨by simp; omega, .inl ?_⟩
  rw [List.map_append] at k
  exact k
theorem sc_History_earlier : FnScope ["self", "steps"] ["self", "steps"] (defScope s_History_earlier) := ⟨rfl, rfl, rfl, by decide +kernel, rfl, by decide +kernel, by decide +kernel⟩
theorem ok_History_earlier (T : Txt P K mg) : FnOk P w K mg base (L2N.CX P w) 3 T.a_History_earlier T.fd_History_earlier ["self", "steps"] (FS K (pr_earlier T.C_History T.C_NoSuch)) := by
  refine DLX.okN T.F_History_earlier sc_History_earlier (fs_len fun ds M Φ Ψ h => by obtain ⟨h, p, f, past, st, fut, n, rfl, _⟩ := h; rfl) fun cdv A outer s H vs Q E hr h => ?_
  refine ⟨_, (pss_cons (ps_if (pt_not (pt_chain op_le op_le pe_int (pv 1) (pe_callB call_lenU (by rfl) T.z_len PySem.boot_len (pa_cons (pe_fld (pv 0) rfl) pa_nil))))
  (pss_one (L2N.ps_raise rfl (L2N.takes_of rfl rfl rfl rfl) (DLX.pmkN T.S_NoSuch.T T.i_NoSuch T.t_NoSuch (ok_NoSuch_init T) (hr.mono (by decide)) T.b_NoSuch_init rfl T.m_NoSuch (pa_cons (pv 1) pa_nil))))
  pss_nil)
  (pss_one (ps_ret (pe_ix ix_seq (pe_meth0 (pv 0) T.c_History T.mm_History_versions (ok_History_versions T) (hr.mono (by decide)) T.b_History_versions .nil pass0 ) (pe_op op_sub (pe_callB call_lenU (by rfl) T.z_len PySem.boot_len (pa_cons (pe_fld (pv 0) rfl) pa_nil)) (pv 1)) (fun _ _ => rfl))))), ?_⟩
  dsimp only [K_cx]
  refine fs_run (fun ds M Φ Ψ hs => ?_) h
  obtain ⟨h, p, f, past, st, fut, n, rfl, hi, hn, kx, k⟩ := hs
  change DL.SD K _ _ _ [some (.ptr h), some (.int n)] _ _
  obtain ⟨ob, pa, fu, ne, b1, b2⟩ := id hi
  have c1 := T.c_History
  have n1 := T.n_History_state
  have n2 := T.n_History_past
  unfold hist at ob
  repeat walk_at "xe"
  refine ifD (fun h0 => ?_) (fun h0 => ?_)
  · repeat walk_at "xe"
    rw [List.length_map]
    refine ifND (fun h1 => ?_) (fun h1 => ?_)
    · refine sd_raise (fun ds => [("number", ds.headD .non)]) (fun ds => ds = [.int n]) ?_ (by decide) ?_
      · rintro G as vs ds r rfl
        cases r with
        | cons a b =>
          cases b
          cases a
          exact ⟨rfl, ⟨n, rfl, hn⟩, .cons (.int n) .nil⟩
      · repeat walk_at "xe"
        exact ⟨rfl, kx (by omega)⟩
    · repeat walk_at "xe"
      refine ⟨h, p, f, past, st, fut, rfl, hi, ?_⟩
      repeat walk_at "xe"
      rw [List.length_map]
      obtain ⟨x, hx⟩ : ∃ x, (past ++ [st])[(past.length - n).toNat]? = some x := ⟨_, List.getElem?_eq_getElem (by simp; omega)⟩
      refine xo_ixL (litems_ptr app_n) (d := x.d) (atI_int (by omega) (by rw [List.getElem?_map, hx]; rfl)) (.inl (k h0 h1 x _ hx))
  · repeat walk_at "xe"
    refine sd_raise (fun ds => [("number", ds.headD .non)]) (fun ds => ds = [.int n]) ?_ (by decide) ?_
    · rintro G as vs ds r rfl
      cases r with
      | cons a b =>
        cases b
        cases a
        exact ⟨rfl, ⟨n, rfl, hn⟩, .cons (.int n) .nil⟩
    · repeat walk_at "xe"
      exact ⟨rfl, kx (by omega)⟩
end
end P93
namespace P93
open PySem L2 StX DL
local macro_rules | `(tactic| walk_at "lt") => `(tactic| first
  | assumption | omega | (simp only [List.length_set, List.length_append, List.length_cons, List.length_nil]; first | omega | exact at_lt (by assumption) | exact Nat.lt_of_lt_of_le (at_lt (by assumption)) (by omega)) | exact at_lt (by assumption))
local macro_rules | `(tactic| walk_at "ne") => `(tactic| first
  | assumption | exact Ne.symm (by assumption) | omega | (simp only [List.length_set, List.length_append, List.length_cons, List.length_nil]; omega))
local macro_rules | `(tactic| walk_at "mo") => `(tactic| first
  | assumption
  | ((refine' app_at ?hh ?ee); (case hh => first | rfl | omega | (simp only [List.length_set, List.length_append, List.length_cons, List.length_nil]; done) | (simp only [List.length_set, List.length_append, List.length_cons, List.length_nil]; omega)); (case ee => rfl))
  | ((refine' set_lt ?hh ?ee); (case hh => walk_at "lt"); (case ee => rfl))
  | exact set_ne (by walk_at "ne") (by walk_at "mo")
  | exact app_l (by walk_at "mo"))
local macro_rules | `(tactic| walk_at "x1") => `(tactic| first
  | (with_reducible first
    | refine sd_asg ?_ | refine sd_if ?_ | refine sd_ret ?_ | refine sd_drop ?_ | refine sd_next ?_ | refine sd_asgG ?_
    | refine xe_var rfl ?_ | refine xe_ty ?_ | refine xe_gl ?_ | refine xe_int ?_ | refine xe_str ?_ | refine xe_bl ?_ | refine xe_non ?_ | refine xe_op ?_ | refine xe_un ?_ | refine xe_cb ?_
    | refine xa_nil ?_ | refine xa_cons ?_ | refine xt_test ?_ | refine xt_and ?_ | refine xt_or ?_ | refine xt_not ?_ | refine xt_tru ?_ | refine xe_if ?_ | refine xe_andV ?_ | refine xe_orV ?_ | refine xe_notV ?_ | refine sd_fld ?_ | refine xe_fld ?_ | refine xe_meth ?_ | refine xe_bm0 ?_ | refine xe_chain ?_ | refine DL.xe_methE ?_ | refine xe_make ?_ | refine xe_sl ?_ | refine xp_none ?_ | refine xp_some ?_ | refine DL.xe_callE ?_ | refine DL.xe_callH ?_ | refine DL.xe_xf ?_ | refine xo_isN ?_ | refine xo_notN ?_
    | refine xo_addI ?_ | refine xo_i ?_ | refine xo_b ?_ | refine xu_i ?_ | refine xo_eqI ?_ | refine xo_neI ?_ | refine xo_eqS ?_ | refine xo_neS ?_
    | refine xc_intI ?_ | refine xc_intB ?_ | refine xe_call ?_
    | refine ⟨_, rfl, ?_⟩ | refine L2.iteF ?_ | refine L2.iteT ?_)
  | ((with_reducible refine' xo_ixL rfl ?k1 ?_); (case k1 => first | rfl | assumption))
  | ((with_reducible refine' xo_mulL ?k1 ?k2 ?_); (case k1 => omega); (case k2 => omega))
  | ((with_reducible refine' xo_mulR ?k1 ?k2 ?_); (case k1 => omega); (case k2 => omega))
  | ((with_reducible refine' xo_modP ?k1 ?_); (case k1 => omega))
  | ((with_reducible refine' xo_divP ?k1 ?k2 ?_); (case k1 => omega); (case k2 => omega))
  | ((with_reducible refine' xo_powP ?k1 ?k2 ?k3 ?_); (case k1 => decide); (case k2 => decide); (case k3 => decide))
  | ((with_reducible refine' xe_bm (xe_var rfl (And.intro (tyD_ptr ?k1) ?_))); (case k1 => walk_at "mo"))
  | ((with_reducible refine' xm_append ?k1 ?k2 ?_); (case k1 => walk_at "mo"); (case k2 => first | omega | (simp only [List.length_map]; omega)))
  | ((with_reducible refine' xo_ixL (litems_ptr ?k1) ?k2 ?_); (case k1 => walk_at "mo"); (case k2 => first | rfl | assumption))
  | ((with_reducible refine xg_setL ?_))
  | ((with_reducible refine' ⟨_, _, _, _, rfl, rfl, ?k1, ?k2, ?_⟩); (case k1 => walk_at "mo"); (case k2 => rfl))
  | ((with_reducible refine' xc_lenL rfl ?_))
  | ((with_reducible refine' xc_lenL (litems_ptr ?k1) ?_); (case k1 => walk_at "mo"))
  | ((with_reducible refine' ⟨_, _, _, rfl, ?k1, ?k2, ?k3, ?k4, ?_⟩); (case k1 => walk_at "mo"); (case k2 => assumption); (case k3 => assumption); (case k4 => first | decide | exact Nat.le_of_ble_eq_true rfl))
  | ((with_reducible refine' fldP ?k1 ?k2 ?k3 ?k4 ?_); (case k1 => walk_at "mo"); (case k2 => assumption); (case k3 => assumption); (case k4 => rfl))
  | ((with_reducible refine' methP ?k1 ?k2 ?_); (case k1 => walk_at "mo"); (case k2 => rfl))
  | ((with_reducible refine' xe_bm0 (xe_var rfl (And.intro (tyD_ptr ?k1) ?_))); (case k1 => walk_at "mo"))
  | ((with_reducible refine' And.intro (tyD_ptr ?k1) ?_); (case k1 => walk_at "mo"))
  | (with_reducible refine xe_bm ?_)
  | ((with_reducible refine' xm_popS ?k1 ?_); (case k1 => walk_at "mo"))
  | ((with_reducible refine' ifTru ?k1 ?_); (case k1 => rfl)) | ((with_reducible refine' ifFal ?k1 ?_); (case k1 => rfl))
  | (refine ⟨_, _, _, rfl, rfl, rfl, ?_⟩))
local macro_rules | `(tactic| walk_at "xe") => `(tactic| first
  | (with_reducible refine sd_seq ?_)
  | walk_at "x1")
/-- what a step does to past, state, future; none: there is no such step -/
def stp (way : Int) (past : List S) (st : S) (fut : List S) (st' : S) : Option (List S × S × List S) :=
  if way = 0 then some (past ++ [st], st', [])
  else if way = 1 then (past.getLast?).map fun x => (past.dropLast, x, fut ++ [st])
  else (fut.getLast?).map fun x => (past ++ [st], x, fut.dropLast)
def pr_moved (C : Addr) : Pr := fun ds M Φ _ => ∃ h p f past st fut way st', ds = [.ptr h, .int way, S.d st'] ∧ Hi C M h p f past st fut ∧ past.length < 1000 ∧ fut.length < 1000 ∧ 0 ≤ way ∧ way ≤ 2 ∧ 
  (stp way past st fut st' = none → Φ (.str "nothing") M) ∧ ∀ a b c f' M', stp way past st fut st' = some (a, b, c) → (f' = f ∨ M.length ≤ f') → Hi C M' h p f' a b c → Keep [h, p, f] M M' → Φ (.str "done") M'
section
variable {P : Program} {w : World} {K : PySem.W.Frag} {mg : Str → Option Value} {base : Heap}
theorem sc_law_moved : FnScope ["history", "way", "state", "e"] ["history", "way", "state"] (defScope s_law_moved) := ⟨rfl, rfl, rfl, by decide +kernel, rfl, by decide +kernel, by decide +kernel⟩
theorem ok_law_moved (T : Txt P K mg) : FnOk P w K mg base CX0 4 T.a_law_moved T.fd_law_moved ["history", "way", "state"] (FS K (pr_moved T.C_History)) := by
  refine T.F_law_moved.ok sc_law_moved (fs_len fun ds M Φ Ψ h => by obtain ⟨h, p, f, past, st, fut, way, st', rfl, _⟩ := h; rfl) fun cdv A outer s H vs Q E hr h => ?_
  refine ⟨_, (pss_cons (DLX.ps_try (i := 3) rfl rfl sc_law_moved.nd rfl rfl ⟨rfl, by decide, .inl T.m_NothingLeft⟩ DLX.takesN0
  (fun W pn xe tk px => by
    refine DLX.keepPS (pss_cons (ps_if (PW.pt (pw_and (pt_cmpR (op_eqU hr.units) (pv 1) pe_int (nomark _)) (pw_and1 (pt_cmpR op_notNU (pe_meth (pv 0) T.c_History T.mm_History_move (ok_History_move T) (hr.mono (by decide)) T.b_History_move .nil pass0 (pa_cons (pv 2) pa_nil)) pe_non (nomark _)))))
  (pss_one (ps_ret pe_str))
  pss_nil)
  (pss_cons (ps_if (PW.pt (pw_and (pt_cmpR (op_eqU hr.units) (pv 1) pe_int (nomark _)) (pw_and1 (pt_cmpR op_notNU (DLX.pe_methS0 (pv 0) T.c_History T.mm_History_undo (ok_History_undo T) (hr.mono (by decide)) T.b_History_undo (fun σ => L2N.passAt tk σ) ) pe_non (nomark _)))))
  (pss_one (ps_ret pe_str))
  pss_nil)
  (pss_one (ps_if (PW.pt (pw_and (pt_cmpR (op_eqU hr.units) (pv 1) pe_int (nomark _)) (pw_and1 (pt_cmpR op_notNU (DLX.pe_methS0 (pv 0) T.c_History T.mm_History_redo (ok_History_redo T) (hr.mono (by decide)) T.b_History_redo (fun σ => L2N.passAt tk σ) ) pe_non (nomark _)))))
  (pss_one (ps_ret pe_str))
  pss_nil)))) ?_
    dsimp only [Cx.tr, K_nox, K_cx]
    try rfl)
  (fun a oe cls d pn hz hf => by
    refine DLX.keepPS (pss_cons (ps_if (PW.pt (pw_and (pt_tru (pe_callB (DLX.call_isED T.e_NothingLeft hz.zc hf) (by rfl) T.z_isinstance PyProof.Rows.boot_isinstance (pa_cons (pv 3) (pa_cons (pe_glob (v := .ref T.C_DescribeError) rfl T.m_DescribeError rfl) pa_nil))) (by intro _; rfl)) (pw_and (pt_tru (pe_callB (DLX.call_isED T.e_NothingLeft hz.zc hf) (by rfl) T.z_isinstance PyProof.Rows.boot_isinstance (pa_cons (pv 3) (pa_cons (pe_bltn (v := .ty "ValueError") rfl T.z_ValueError (by decide +kernel) rfl) pa_nil))) (by intro _; rfl)) (pw_and1 (pt_not (pt_tru (pe_callB (DLX.call_isED T.e_NothingLeft hz.zc hf) (by rfl) T.z_isinstance PyProof.Rows.boot_isinstance (pa_cons (pv 3) (pa_cons (pe_glob (v := .ref T.C_NoSuch) rfl T.m_NoSuch rfl) pa_nil))) (by intro _; rfl)))))))
  (pss_one (ps_ret pe_str))
  pss_nil)
  (pss_one (ps_ret pe_str))) ?_
    dsimp only [Cx.suite, K_nox, K_cx]
    try rfl))
  (pss_one (ps_ret pe_str))), ?_⟩
  dsimp only [K_nox]
  refine fs_run (fun ds M Φ Ψ hs => ?_) h
  obtain ⟨h, p, f, past, st, fut, way, st', rfl, hi, hb1, hb2, w0, w2, kn, k⟩ := hs
  change DL.SD K _ _ _ [some (.ptr h), some (.int way), some (S.d st'), none] _ _
  obtain ⟨ob, pa, fu, ne, b1, b2⟩ := id hi
  unfold hist at ob
  refine sd_seq (sd_try (fun _ _ _ _ => False) (fun _ _ _ _ => kx_none) fun W' => ?_)
  repeat walk_at "xe"
  have suite : ∀ {es' : List (Option D)} {a : Addr} {od : Option Addr} {N : Ed}, es'[3]? = some none → es'.length = 4 → N.rt (.str "nothing") M → SD K (fun c d x H => E c d H) (fun C fs x M' => Ψ C fs M')
      (tSeq (tIfS (tAnd (tTruD K (tCB (DLX.rIsED K T.C_NothingLeft a (Value.ref T.C_NothingLeft) od) (tCons (tVar 3) (tCons (tC (V.ref T.C_DescribeError)) tNil))))
        (tAnd (tTruD K (tCB (DLX.rIsED K T.C_NothingLeft a (Value.ref T.C_NothingLeft) od) (tCons (tVar 3) (tCons (tC (V.ty "ValueError")) tNil))))
          (tNot (tTruD K (tCB (DLX.rIsED K T.C_NothingLeft a (Value.ref T.C_NothingLeft) od) (tCons (tVar 3) (tCons (tC (V.ref T.C_NoSuch)) tNil)))))))
        (tRet (tC (V.str "nothing"))) tNext) (tRet (tC (V.str "other")))) (es'.set 3 (some (D.exc a od []))) M N := fun {es' a od N} h3 h4 hN => by
    have e3 : (es'.set 3 (some (D.exc a od [])))[3]? = some (some (D.exc a od [])) := List.getElem?_set_self (by omega)
    repeat walk_at "xe"
    refine xe_var e3 ?_
    repeat walk_at "xe"
    refine xc_isE (.gl _) T.is_NothingLeft_DescribeError ?_
    repeat walk_at "xe"
    refine xe_var e3 ?_
    repeat walk_at "xe"
    refine xc_isE (.ty _) T.is_NothingLeft_ValueError ?_
    repeat walk_at "xe"
    refine xe_var e3 ?_
    repeat walk_at "xe"
    refine xc_isE (.gl _) T.is_NothingLeft_NoSuch ?_
    repeat walk_at "xe"
    exact hN
  refine ifE (fun h0 => ?_) (fun h0 => ?_)
  · subst h0
    repeat walk_at "xe"
    refine ⟨h, p, f, past, st, fut, st', rfl, hi, hb1, fun f' M' hf' hi' kp => ?_⟩
    repeat walk_at "xe"
    refine .inl (k _ _ _ f' M' rfl (.inr hf') hi' fun j m hj e => kp j m (fun z => hj ?_) e)
    rcases List.mem_cons.mp z with z | z
    · simp [z]
    · simp at z; simp [z]
  · repeat walk_at "xe"
    refine ifE (fun h1 => ?_) (fun h1 => ?_)
    · subst h1
      repeat walk_at "xe"
      refine ⟨h, p, f, past, st, fut, rfl, hi, hb2, fun e0 => ⟨true, T.ex_NothingLeft_NothingLeft, fun _ a od _ => suite rfl rfl (.inl (kn ?_)), fun z => nomatch z⟩, fun past' x M' e hi' kp => ?_⟩
      · subst e0
        rfl
      · subst e
        repeat walk_at "xe"
        exact .inl (k _ _ _ f M' (by unfold stp; simp) (.inl rfl) hi' kp)
    · obtain rfl : way = 2 := by omega
      repeat walk_at "xe"
      refine ⟨h, p, f, past, st, fut, rfl, hi, hb1, fun e0 => ⟨true, T.ex_NothingLeft_NothingLeft, fun _ a od _ => suite rfl rfl (.inl (kn ?_)), fun z => nomatch z⟩, fun fut' x M' e hi' kp => ?_⟩
      · subst e0
        rfl
      · subst e
        repeat walk_at "xe"
        exact .inl (k _ _ _ f M' (by unfold stp; simp) (.inl rfl) hi' kp)
def pr_seen (C : Addr) : Pr := fun ds M Φ _ => ∃ h p f past st fut n, ds = [.ptr h, .int n] ∧ Hi C M h p f past st fut ∧ n.natAbs ≤ 1500 ∧ (¬ (0 ≤ n ∧ n ≤ past.length) → Φ (.tup [.str "none", .int n]) M) ∧
  (0 ≤ n → n ≤ past.length → ∀ x J, (past ++ [st])[(past.length - n).toNat]? = some x → Φ (.tup [.str "state", S.d x]) (M ++ J))
theorem sc_law_earlier : FnScope ["history", "steps", "e"] ["history", "steps"] (defScope s_law_earlier) := ⟨rfl, rfl, rfl, by decide +kernel, rfl, by decide +kernel, by decide +kernel⟩
theorem ok_law_earlier (T : Txt P K mg) : FnOk P w K mg base CX0 4 T.a_law_earlier T.fd_law_earlier ["history", "steps"] (FS K (pr_seen T.C_History)) := by
  refine T.F_law_earlier.ok sc_law_earlier (fs_len fun ds M Φ Ψ h => by obtain ⟨h, p, f, past, st, fut, n, rfl, _⟩ := h; rfl) fun cdv A outer s H vs Q E hr h => ?_
  refine ⟨_, (pss_cons (DLX.ps_try (i := 2) rfl rfl sc_law_earlier.nd rfl rfl ⟨rfl, by decide, .inl T.m_NoSuch⟩ DLX.takesN0
  (fun W pn xe tk px => by
    refine DLX.keepPS (pss_one (ps_ret (pe_tup (pa_cons pe_str (pa_cons (DLX.pe_methS (pv 0) T.c_History T.mm_History_earlier (ok_History_earlier T) (hr.mono (by decide)) T.b_History_earlier (fun σ => L2N.passAt tk σ) (pa_cons (pv 1) pa_nil)) pa_nil))))) ?_
    dsimp only [Cx.tr, K_nox, K_cx]
    try rfl)
  (fun a oe cls d pn hz hf => by
    refine DLX.keepPS (pss_one (ps_if (PW.pt (pw_and (pt_tru (L2H.pe_callH (okH_law_int T) (L2H.roomH_mark (hr.mono (by decide)) _) (DLX.hotS hz hf) rfl T.m_law_int T.k_law_int T.b_law_int (fun _ => DLX.passH0) (pa_cons (pe_xf T.f_NoSuch T.n_NoSuch_number hz.zc hf (pv 2)) pa_nil)) (by intro _; rfl)) (pw_and (pt_tru (pe_callB (DLX.call_isED T.e_NoSuch hz.zc hf) (by rfl) T.z_isinstance PyProof.Rows.boot_isinstance (pa_cons (pv 2) (pa_cons (pe_glob (v := .ref T.C_DescribeError) rfl T.m_DescribeError rfl) pa_nil))) (by intro _; rfl)) (pw_and1 (pt_not (pt_tru (pe_callB (DLX.call_isED T.e_NoSuch hz.zc hf) (by rfl) T.z_isinstance PyProof.Rows.boot_isinstance (pa_cons (pv 2) (pa_cons (pe_glob (v := .ref T.C_NothingLeft) rfl T.m_NothingLeft rfl) pa_nil))) (by intro _; rfl)))))))
  (pss_one (ps_ret (pe_tup (pa_cons pe_str (pa_cons (pe_xf T.f_NoSuch T.n_NoSuch_number hz.zc hf (pv 2)) pa_nil)))))
  pss_nil)) ?_
    dsimp only [Cx.suite, K_nox, K_cx]
    try rfl))
  (pss_one (ps_ret (pe_tup (pa_cons pe_str (pa_cons pe_int pa_nil)))))), ?_⟩
  dsimp only [K_nox]
  refine fs_run (fun ds M Φ Ψ hs => ?_) h
  obtain ⟨h, p, f, past, st, fut, n, rfl, hi, hn, kn, k⟩ := hs
  change DL.SD K _ _ _ [some (.ptr h), some (.int n), none] _ _
  obtain ⟨ob, pa, fu, ne, b1, b2⟩ := id hi
  unfold hist at ob
  refine sd_seq (sd_try (fun _ _ _ _ => False) (fun _ _ _ _ => kx_none) fun W' => ?_)
  repeat walk_at "xe"
  refine xe_tup ?_
  repeat walk_at "xe"
  refine ⟨h, p, f, past, st, fut, n, rfl, hi, hn, fun hno => ⟨true, T.ex_NoSuch_NoSuch, fun _ a od hod => ?_, fun z => nomatch z⟩, fun h0 h1 x J hx => ?_⟩
  · obtain ⟨dd, rfl⟩ : ∃ dd, od = some dd := by
      cases od with
      | none => cases hod rfl
      | some dd => exact ⟨dd, rfl⟩
    repeat walk_at "xe"
    refine ⟨n, rfl, ?_⟩
    repeat walk_at "xe"
    refine xc_isE (.gl _) T.is_NoSuch_DescribeError ?_
    repeat walk_at "xe"
    refine xc_isE (.gl _) T.is_NoSuch_NothingLeft ?_
    repeat walk_at "xe"
    refine xe_tup ?_
    repeat walk_at "xe"
    exact ⟨by simp, .inl (kn hno)⟩
  · repeat walk_at "xe"
    exact ⟨by simp, .inl (k h0 h1 x J hx)⟩
end
end P93
namespace P93
open PySem L2 StX DL
local macro_rules | `(tactic| walk_at "lt") => `(tactic| first
  | assumption | omega | (simp only [List.length_set, List.length_append, List.length_cons, List.length_nil]; first | omega | exact at_lt (by assumption) | exact Nat.lt_of_lt_of_le (at_lt (by assumption)) (by omega)) | exact at_lt (by assumption))
local macro_rules | `(tactic| walk_at "ne") => `(tactic| first
  | assumption | exact Ne.symm (by assumption) | omega | (simp only [List.length_set, List.length_append, List.length_cons, List.length_nil]; omega))
local macro_rules | `(tactic| walk_at "mo") => `(tactic| first
  | assumption
  | ((refine' app_at ?hh ?ee); (case hh => first | rfl | omega | (simp only [List.length_set, List.length_append, List.length_cons, List.length_nil]; done) | (simp only [List.length_set, List.length_append, List.length_cons, List.length_nil]; omega)); (case ee => rfl))
  | ((refine' set_lt ?hh ?ee); (case hh => walk_at "lt"); (case ee => rfl))
  | exact set_ne (by walk_at "ne") (by walk_at "mo")
  | exact app_l (by walk_at "mo"))
local macro_rules | `(tactic| walk_at "x1") => `(tactic| first
  | (with_reducible first
    | refine sd_asg ?_ | refine sd_if ?_ | refine sd_ret ?_ | refine sd_drop ?_ | refine sd_next ?_ | refine sd_asgG ?_
    | refine xe_var rfl ?_ | refine xe_ty ?_ | refine xe_gl ?_ | refine xe_int ?_ | refine xe_str ?_ | refine xe_bl ?_ | refine xe_non ?_ | refine xe_op ?_ | refine xe_un ?_ | refine xe_cb ?_
    | refine xa_nil ?_ | refine xa_cons ?_ | refine xt_test ?_ | refine xt_and ?_ | refine xt_or ?_ | refine xt_not ?_ | refine xt_tru ?_ | refine xe_if ?_ | refine xe_andV ?_ | refine xe_orV ?_ | refine xe_notV ?_ | refine sd_fld ?_ | refine xe_fld ?_ | refine xe_meth ?_ | refine xe_bm0 ?_ | refine xe_chain ?_ | refine DL.xe_methE ?_ | refine xe_make ?_ | refine xe_sl ?_ | refine xp_none ?_ | refine xp_some ?_ | refine DL.xe_callE ?_ | refine DL.xe_callH ?_ | refine DL.xe_xf ?_ | refine xo_isN ?_ | refine xo_notN ?_
    | refine xo_addI ?_ | refine xo_i ?_ | refine xo_b ?_ | refine xu_i ?_ | refine xo_eqI ?_ | refine xo_neI ?_ | refine xo_eqS ?_ | refine xo_neS ?_
    | refine xc_intI ?_ | refine xc_intB ?_ | refine xe_call ?_
    | refine ⟨_, rfl, ?_⟩ | refine L2.iteF ?_ | refine L2.iteT ?_)
  | ((with_reducible refine' xo_ixL rfl ?k1 ?_); (case k1 => first | rfl | assumption))
  | ((with_reducible refine' xo_mulL ?k1 ?k2 ?_); (case k1 => omega); (case k2 => omega))
  | ((with_reducible refine' xo_mulR ?k1 ?k2 ?_); (case k1 => omega); (case k2 => omega))
  | ((with_reducible refine' xo_modP ?k1 ?_); (case k1 => omega))
  | ((with_reducible refine' xo_divP ?k1 ?k2 ?_); (case k1 => omega); (case k2 => omega))
  | ((with_reducible refine' xo_powP ?k1 ?k2 ?k3 ?_); (case k1 => decide); (case k2 => decide); (case k3 => decide))
  | ((with_reducible refine' xe_bm (xe_var rfl (And.intro (tyD_ptr ?k1) ?_))); (case k1 => walk_at "mo"))
  | ((with_reducible refine' xm_append ?k1 ?k2 ?_); (case k1 => walk_at "mo"); (case k2 => first | omega | (simp only [List.length_map]; omega)))
  | ((with_reducible refine' xo_ixL (litems_ptr ?k1) ?k2 ?_); (case k1 => walk_at "mo"); (case k2 => first | rfl | assumption))
  | ((with_reducible refine xg_setL ?_))
  | ((with_reducible refine' ⟨_, _, _, _, rfl, rfl, ?k1, ?k2, ?_⟩); (case k1 => walk_at "mo"); (case k2 => rfl))
  | ((with_reducible refine' xc_lenL rfl ?_))
  | ((with_reducible refine' xc_lenL (litems_ptr ?k1) ?_); (case k1 => walk_at "mo"))
  | ((with_reducible refine' ⟨_, _, _, rfl, ?k1, ?k2, ?k3, ?k4, ?_⟩); (case k1 => walk_at "mo"); (case k2 => assumption); (case k3 => assumption); (case k4 => first | decide | exact Nat.le_of_ble_eq_true rfl))
  | ((with_reducible refine' fldP ?k1 ?k2 ?k3 ?k4 ?_); (case k1 => walk_at "mo"); (case k2 => assumption); (case k3 => assumption); (case k4 => rfl))
  | ((with_reducible refine' methP ?k1 ?k2 ?_); (case k1 => walk_at "mo"); (case k2 => rfl))
  | ((with_reducible refine' xe_bm0 (xe_var rfl (And.intro (tyD_ptr ?k1) ?_))); (case k1 => walk_at "mo"))
  | ((with_reducible refine' And.intro (tyD_ptr ?k1) ?_); (case k1 => walk_at "mo"))
  | (with_reducible refine xe_bm ?_)
  | ((with_reducible refine' xm_popS ?k1 ?_); (case k1 => walk_at "mo"))
  | ((with_reducible refine' ifTru ?k1 ?_); (case k1 => rfl)) | ((with_reducible refine' ifFal ?k1 ?_); (case k1 => rfl))
  | (refine ⟨_, _, _, rfl, rfl, rfl, ?_⟩))
local macro_rules | `(tactic| walk_at "xe") => `(tactic| first
  | (with_reducible refine sd_seq ?_)
  | walk_at "x1")
theorem Hi.grow {C : Addr} {M M' : List MO} {h p f : Nat} {past fut : List S} {st : S} (x : Hi C M h p f past st fut) (g : ∀ (j : Nat) m, M[j]? = some m → M'[j]? = some m) : Hi C M' h p f past st fut := ⟨g _ _ x.ob, g _ _ x.pa, g _ _ x.fu, x.ne, x.b1, x.b2⟩
theorem pyM_d {M : List MO} (s : S) : pyM M s.d = some s.y := by cases s <;> rfl
def pr_same (C : Addr) : Pr := fun ds M Φ _ => ∃ h p f past st fut fs, ds = [.ptr h, .lst [.lst ((past ++ [st]).map S.d), fs]] ∧ Hi C M h p f past st fut ∧ ∀ J, Φ (.bl true) (M ++ J)
section
variable {P : Program} {w : World} {K : PySem.W.Frag} {mg : Str → Option Value} {base : Heap}
theorem sc_law_same : FnScope ["history", "model", "now", "told", "steps", "due"] ["history", "model"] (defScope s_law_same) := ⟨rfl, rfl, rfl, by decide +kernel, rfl, by decide +kernel, by decide +kernel⟩
theorem ok_law_same (T : Txt P K mg) : FnOk P w K mg base CX0 5 T.a_law_same T.fd_law_same ["history", "model"] (FS K (pr_same T.C_History)) := by
  refine T.F_law_same.ok sc_law_same (fs_len fun ds M Φ Ψ h => by obtain ⟨h, p, f, past, st, fut, fs, rfl, _⟩ := h; rfl) fun cdv A outer s H vs Q E hr h => ?_
  refine ⟨_, (pss_cons (ps_set (i := 2) sc_law_same.nd rfl (Or.inl rfl) (pe_ix ix_seq (pv 1) pe_int (fun _ _ => rfl)))
  (pss_cons (ps_set (i := 3) sc_law_same.nd rfl (Or.inl rfl) (pe_meth0 (pv 0) T.c_History T.mm_History_versions (ok_History_versions T) (hr.mono (by decide)) T.b_History_versions .nil pass0 ))
  (pss_cons (ps_if (PW.pt (pw_or (pt_not (pt_tru (pe_callB call_isi (by rfl) T.z_isinstance PyProof.Rows.boot_isinstance (pa_cons (pv 3) (pa_cons (pe_bltn (v := .ty "list") rfl T.z_list (by decide +kernel) rfl) pa_nil))) (by intro _; rfl))) (pw_or (pt_cmpR (op_neU hr.units) (pv 3) (pe_ix ix_seq (pv 1) pe_int (fun _ _ => rfl)) (nomark _)) (pw_or1 (pt_cmpR (op_neU hr.units) (pe_fld (pv 0) rfl) (pe_ix ix_seq (pv 2) (pe_op op_sub (pe_callB call_lenU (by rfl) T.z_len PySem.boot_len (pa_cons (pv 2) pa_nil)) pe_int) (fun _ _ => rfl)) (nomark _))))))
  (pss_one (ps_ret pe_bl))
  pss_nil)
  (pss_cons (ps_expr (pe_bm PySem.F.plainAttrs_list PySem.F.slot_list_append PySem.F.type_list_append mt_append (pv 3) (pa_cons pe_str pa_nil)))
  (pss_cons (ps_asg pe_str (pg_sub (pv 3) pe_int set_list))
  (pss_cons (ps_if (pt_cmpR (op_neU hr.units) (pe_meth0 (pv 0) T.c_History T.mm_History_versions (ok_History_versions T) (hr.mono (by decide)) T.b_History_versions .nil pass0 ) (pe_ix ix_seq (pv 1) pe_int (fun _ _ => rfl)) (nomark _))
  (pss_one (ps_ret pe_bl))
  pss_nil)
  (pss_cons (ps_for PassesOwn.never rfl (pi_range2 rfl T.z_range (pa_cons (pe_un un_neg pe_int) (pa_cons (pe_op op_addU (pe_callB call_lenU (by rfl) T.z_len PySem.boot_len (pa_cons (pv 2) pa_nil)) pe_int) pa_nil))) (pg_name (i := 4) sc_law_same.nd rfl (Or.inl rfl))
  (pss_cons (ps_set (i := 5) sc_law_same.nd rfl (Or.inl rfl) (pe_tup (pa_cons pe_str (pa_cons (pv 4) pa_nil))))
  (pss_cons (ps_if (pt_chain op_le op_lt pe_int (pv 4) (pe_callB call_lenU (by rfl) T.z_len PySem.boot_len (pa_cons (pv 2) pa_nil)))
  (pss_one (ps_set (i := 5) sc_law_same.nd rfl (Or.inl rfl) (pe_tup (pa_cons pe_str (pa_cons (pe_ix ix_seq (pv 2) (pe_op op_sub (pe_op op_sub (pe_callB call_lenU (by rfl) T.z_len PySem.boot_len (pa_cons (pv 2) pa_nil)) pe_int) (pv 4)) (fun _ _ => rfl)) pa_nil)))))
  pss_nil)
  (pss_one (ps_if (pt_cmpR (op_neU hr.units) (pe_call (ok_law_earlier T) (hr.mono (by decide)) rfl T.m_law_earlier T.k_law_earlier T.b_law_earlier .nil pass0 (pa_cons (pv 0) (pa_cons (pv 4) pa_nil))) (pv 5) (nomark _))
  (pss_one (ps_ret pe_bl))
  pss_nil)))))
  (pss_one (ps_ret pe_bl))))))))), ?_⟩
  dsimp only [K_nox]
  refine fs_run (fun ds M Φ Ψ hs => ?_) h
  obtain ⟨h, p, f, past, st, fut, fs, rfl, hi, k⟩ := hs
  change DL.SD K _ _ _ [some (.ptr h), some (.lst [.lst ((past ++ [st]).map S.d), fs]), none, none, none, none] _ _
  obtain ⟨ob, pa, fu, ne, b1, b2⟩ := id hi
  unfold hist at ob
  have c1 := T.c_History
  have n1 := T.n_History_state
  generalize hnow : past ++ [st] = now
  have hlast : (now.map S.d)[now.length - 1]? = some st.d := by subst hnow; simp
  have hlen : now.length = past.length + 1 := by subst hnow; simp
  repeat walk_at "xe"
  refine ⟨h, p, f, past, st, fut, rfl, hi, ?_⟩
  rw [hnow]
  repeat walk_at "xe"
  refine xc_isi (.lst (litems_ptr app_n)) (.ty _) (kit_ty (a := "list") (b := "list") (r := true) (by decide +kernel)) ?_
  repeat walk_at "xe"
  refine xo_neSame (pyM_ptr app_n (pys_d now)) (p := .list (now.map S.y)) ?_ (fit_ss now) (by decide) ?_
  · show py (.lst (now.map S.d)) = _
    unfold py
    rw [pys_d]
    rfl
  repeat walk_at "xe"
  rw [List.length_map]
  refine xo_ixL (x := .lst (now.map S.d)) (d := st.d) rfl (atI_int (by omega) (by
    have e : ((now.length : Int) - 1).toNat = now.length - 1 := by omega
    rw [e]
    exact hlast)) (xo_neSame (pyM_d st) (pyM_d st) (fit_s st) (by decide) ?_)
  have b3 : ((now.map S.d) : List D).length < 1000000 := by rw [List.length_map]; omega
  repeat walk_at "xe"
  refine ⟨_, _, 0, (now.map S.d ++ [D.str "more"]), rfl, rfl, by walk_at "mo", ?_, ?_⟩
  · simp [ixN]
  have e1 : (((M ++ [MO.lst (now.map S.d)]).set M.length (MO.lst (now.map S.d ++ [D.str "more"]))).set M.length (MO.lst ((now.map S.d ++ [D.str "more"]).set 0 (D.str "other")))) = M ++ [MO.lst ((now.map S.d ++ [D.str "more"]).set 0 (D.str "other"))] := by simp
  rw [e1]
  generalize (now.map S.d ++ [D.str "more"]).set 0 (D.str "other") = oth
  have hi2 : ∀ J, Hi T.C_History (M ++ J) h p f past st fut := fun J => hi.grow fun j m e => app_l e
  repeat walk_at "xe"
  refine ⟨h, p, f, past, st, fut, rfl, hi2 _, ?_⟩
  rw [hnow]
  repeat walk_at "xe"
  refine xo_neSame (pyM_ptr app_n (pys_d now)) (p := .list (now.map S.y)) ?_ (fit_ss now) (by decide) ?_
  · show py (.lst (now.map S.d)) = _
    unfold py
    rw [pys_d]
    rfl
  repeat walk_at "xe"
  refine sd_rng2 ?_
  repeat walk_at "xe"
  rw [List.length_map]
  refine ⟨_, _, rfl, by omega, by omega, by omega, by omega, fun _ es' M' => ∃ o4 o5 J, es' = [some (.ptr h), some (.lst [.lst (now.map S.d), fs]), some (.lst (now.map S.d)), some (.ptr M.length), o4, o5] ∧ M' = M ++ J, ⟨none, none, _, rfl, List.append_assoc _ _ _⟩, ?_, ?_⟩
  · rintro i es' M' hlt ⟨o4, o5, J, rfl, rfl⟩
    have hn : ∃ n : Int, n = -1 + (i : Int) := ⟨_, rfl⟩
    obtain ⟨n, hn⟩ := hn
    rw [← hn]
    refine xg_name ?_
    repeat walk_at "xe"
    refine xe_tup ?_
    repeat walk_at "xe"
    refine ⟨by simp, ?_⟩
    refine sd_cut (fun es' M' => es' = [some (.ptr h), some (.lst [.lst (now.map S.d), fs]), some (.lst (now.map S.d)), some (.ptr M.length), some (.int n), some (if 0 ≤ n ∧ n < now.length then .tup [.str "state", ((now.map S.d)[now.length - 1 - n.toNat]?).getD .non] else .tup [.str "none", .int n])] ∧ M' = M ++ J) ?_ ?_
    · repeat walk_at "xe"
      refine ifD (fun h0 => ?_) (fun h0 => ?_)
      · repeat walk_at "xe"
        rw [List.length_map]
        refine ifD (fun h1 => ?_) (fun h1 => ?_)
        · repeat walk_at "xe"
          refine xe_tup ?_
          repeat walk_at "xe"
          rw [List.length_map]
          have hj : now.length - 1 - n.toNat < (now.map S.d).length := by rw [List.length_map]; omega
          refine xo_ixL (x := .lst (now.map S.d)) (d := (now.map S.d)[now.length - 1 - n.toNat]) rfl (atI_int (by omega) ?_) ?_
          · have e : ((now.length : Int) - 1 - n).toNat = now.length - 1 - n.toNat := by omega
            rw [e, List.getElem?_eq_getElem hj]
          repeat walk_at "xe"
          refine ⟨by simp, ?_, rfl⟩
          rw [if_pos ⟨h0, h1⟩, List.getElem?_eq_getElem hj]
          rfl
        · repeat walk_at "xe"
          exact ⟨by rw [if_neg (by omega)]; rfl, rfl⟩
      · repeat walk_at "xe"
        exact ⟨by rw [if_neg (by omega)]; rfl, rfl⟩
    · rintro es' M' ⟨rfl, rfl⟩
      repeat walk_at "xe"
      refine ⟨h, p, f, past, st, fut, n, rfl, hi2 _, by omega, fun hno => ?_, fun h0 h1 x J' hx => ?_⟩
      · repeat walk_at "xe"
        rw [if_neg (by omega)]
        refine xo_neSame (p := .tuple [.str "none", .int n]) rfl rfl (n := 1) (fit_tuple fun d hd => ?_) (by decide) ?_
        · rcases List.mem_cons.mp hd with rfl | hd
          · exact fit_str (by decide +kernel)
          · rcases List.mem_cons.mp hd with rfl | hd
            · exact fit_int n
            · cases hd
        repeat walk_at "xe"
        exact ⟨_, _, J, rfl, rfl⟩
      · repeat walk_at "xe"
        rw [if_pos (by omega)]
        have e : (now.map S.d)[now.length - 1 - n.toNat]? = some x.d := by
          rw [hnow] at hx
          have e2 : ((past.length : Int) - n).toNat = now.length - 1 - n.toNat := by omega
          rw [e2] at hx
          rw [List.getElem?_map, hx]
          rfl
        rw [e]
        have e3 : py (.tup [.str "state", x.d]) = some (.tuple [.str "state", x.y]) := by
          unfold py pys pys pys
          rw [py_d]
          rfl
        refine xo_neSame (p := .tuple [.str "state", x.y]) e3 e3 (n := 2) (fit_tuple fun d hd => ?_) (by decide) ?_
        · rcases List.mem_cons.mp hd with rfl | hd
          · exact fit_str (by decide +kernel)
          · rcases List.mem_cons.mp hd with rfl | hd
            · exact fit_s x
            · cases hd
        repeat walk_at "xe"
        exact ⟨_, _, _, rfl, List.append_assoc _ _ _⟩
  · rintro es' M' ⟨o4, o5, J, rfl, rfl⟩
    repeat walk_at "xe"
    exact .inl (k J)
end
end P93
namespace P93
open PySem L2 StX DL
local macro_rules | `(tactic| walk_at "lt") => `(tactic| first
  | assumption | omega | (simp only [List.length_set, List.length_append, List.length_cons, List.length_nil]; first | omega | exact at_lt (by assumption) | exact Nat.lt_of_lt_of_le (at_lt (by assumption)) (by omega)) | exact at_lt (by assumption))
local macro_rules | `(tactic| walk_at "ne") => `(tactic| first
  | assumption | exact Ne.symm (by assumption) | omega | (simp only [List.length_set, List.length_append, List.length_cons, List.length_nil]; omega))
local macro_rules | `(tactic| walk_at "mo") => `(tactic| first
  | assumption
  | ((refine' app_at ?hh ?ee); (case hh => first | rfl | omega | (simp only [List.length_set, List.length_append, List.length_cons, List.length_nil]; done) | (simp only [List.length_set, List.length_append, List.length_cons, List.length_nil]; omega)); (case ee => rfl))
  | ((refine' set_lt ?hh ?ee); (case hh => walk_at "lt"); (case ee => rfl))
  | exact set_ne (by walk_at "ne") (by walk_at "mo")
  | exact app_l (by walk_at "mo"))
local macro_rules | `(tactic| walk_at "x1") => `(tactic| first
  | (with_reducible first
    | refine sd_asg ?_ | refine sd_if ?_ | refine sd_ret ?_ | refine sd_drop ?_ | refine sd_next ?_ | refine sd_asgG ?_
    | refine xe_var rfl ?_ | refine xe_ty ?_ | refine xe_gl ?_ | refine xe_int ?_ | refine xe_str ?_ | refine xe_bl ?_ | refine xe_non ?_ | refine xe_op ?_ | refine xe_un ?_ | refine xe_cb ?_
    | refine xa_nil ?_ | refine xa_cons ?_ | refine xt_test ?_ | refine xt_and ?_ | refine xt_or ?_ | refine xt_not ?_ | refine xt_tru ?_ | refine xe_if ?_ | refine xe_andV ?_ | refine xe_orV ?_ | refine xe_notV ?_ | refine sd_fld ?_ | refine xe_fld ?_ | refine xe_meth ?_ | refine xe_bm0 ?_ | refine xe_chain ?_ | refine DL.xe_methE ?_ | refine xe_make ?_ | refine xe_sl ?_ | refine xp_none ?_ | refine xp_some ?_ | refine DL.xe_callE ?_ | refine DL.xe_callH ?_ | refine DL.xe_xf ?_ | refine xo_isN ?_ | refine xo_notN ?_
    | refine xo_addI ?_ | refine xo_i ?_ | refine xo_b ?_ | refine xu_i ?_ | refine xo_eqI ?_ | refine xo_neI ?_ | refine xo_eqS ?_ | refine xo_neS ?_
    | refine xc_intI ?_ | refine xc_intB ?_ | refine xe_call ?_
    | refine ⟨_, rfl, ?_⟩ | refine L2.iteF ?_ | refine L2.iteT ?_)
  | ((with_reducible refine' xo_ixL rfl ?k1 ?_); (case k1 => first | rfl | assumption))
  | ((with_reducible refine' xo_mulL ?k1 ?k2 ?_); (case k1 => omega); (case k2 => omega))
  | ((with_reducible refine' xo_mulR ?k1 ?k2 ?_); (case k1 => omega); (case k2 => omega))
  | ((with_reducible refine' xo_modP ?k1 ?_); (case k1 => omega))
  | ((with_reducible refine' xo_divP ?k1 ?k2 ?_); (case k1 => omega); (case k2 => omega))
  | ((with_reducible refine' xo_powP ?k1 ?k2 ?k3 ?_); (case k1 => decide); (case k2 => decide); (case k3 => decide))
  | ((with_reducible refine' xe_bm (xe_var rfl (And.intro (tyD_ptr ?k1) ?_))); (case k1 => walk_at "mo"))
  | ((with_reducible refine' xm_append ?k1 ?k2 ?_); (case k1 => walk_at "mo"); (case k2 => first | omega | (simp only [List.length_map]; omega)))
  | ((with_reducible refine' xo_ixL (litems_ptr ?k1) ?k2 ?_); (case k1 => walk_at "mo"); (case k2 => first | rfl | assumption))
  | ((with_reducible refine xg_setL ?_))
  | ((with_reducible refine' ⟨_, _, _, _, rfl, rfl, ?k1, ?k2, ?_⟩); (case k1 => walk_at "mo"); (case k2 => rfl))
  | ((with_reducible refine' xc_lenL rfl ?_))
  | ((with_reducible refine' xc_lenL (litems_ptr ?k1) ?_); (case k1 => walk_at "mo"))
  | ((with_reducible refine' ⟨_, _, _, rfl, ?k1, ?k2, ?k3, ?k4, ?_⟩); (case k1 => walk_at "mo"); (case k2 => assumption); (case k3 => assumption); (case k4 => first | decide | exact Nat.le_of_ble_eq_true rfl))
  | ((with_reducible refine' fldP ?k1 ?k2 ?k3 ?k4 ?_); (case k1 => walk_at "mo"); (case k2 => assumption); (case k3 => assumption); (case k4 => rfl))
  | ((with_reducible refine' methP ?k1 ?k2 ?_); (case k1 => walk_at "mo"); (case k2 => rfl))
  | ((with_reducible refine' xe_bm0 (xe_var rfl (And.intro (tyD_ptr ?k1) ?_))); (case k1 => walk_at "mo"))
  | ((with_reducible refine' And.intro (tyD_ptr ?k1) ?_); (case k1 => walk_at "mo"))
  | (with_reducible refine xe_bm ?_)
  | ((with_reducible refine' xm_popS ?k1 ?_); (case k1 => walk_at "mo"))
  | ((with_reducible refine' ifTru ?k1 ?_); (case k1 => rfl)) | ((with_reducible refine' ifFal ?k1 ?_); (case k1 => rfl))
  | (refine ⟨_, _, _, rfl, rfl, rfl, ?_⟩))
local macro_rules | `(tactic| walk_at "xe") => `(tactic| first
  | (with_reducible refine sd_seq ?_)
  | walk_at "x1")
/-- a history in the store, with what it holds -/
structure HS where
  h : Nat
  p : Nat
  f : Nat
  past : List S
  st : S
  fut : List S
def HS.ix (x : HS) : List Nat := [x.h, x.p, x.f]
abbrev HS.md (x : HS) : D := .lst [.lst ((x.past ++ [x.st]).map S.d), .lst (x.fut.map S.d)]
def HS.ok (C : Addr) (M : List MO) (x : HS) : Prop := Hi C M x.h x.p x.f x.past x.st x.fut
structure Iv (C : Addr) (M : List MO) (i m : Nat) (q : Bool → HS) (md : Bool → D) : Prop where
  st : Strm M i
  hi : ∀ b, (q b).ok C M
  mo : M[m]? = some (.lst [md false, md true])
  d1 : ∀ b, i ∉ (q b).ix
  d2 : ∀ b, m ∉ (q b).ix
  d3 : i ≠ m
  d4 : ∀ b, ∀ x ∈ (q b).ix, x ∉ (q (!b)).ix
theorem Hi.keep {C : Addr} {M M' : List MO} {hs : List Nat} {h p f : Nat} {past fut : List S} {st : S} (x : Hi C M h p f past st fut) (k : Keep hs M M') (n : ∀ j ∈ [h, p, f], j ∉ hs) : Hi C M' h p f past st fut :=
  ⟨k _ _ (n h (by simp)) x.ob, k _ _ (n p (by simp)) x.pa, k _ _ (n f (by simp)) x.fu, x.ne, x.b1, x.b2⟩
theorem Strm.keep {M M' : List MO} {hs : List Nat} {i : Nat} (x : Strm M i) (k : Keep hs M M') (n : i ∉ hs) : Strm M' i := by
  obtain ⟨cs, p, l, sd, z, e⟩ := x
  exact ⟨cs, p, l, sd, z, k _ _ n e⟩
theorem Strm.lt {M : List MO} {i : Nat} (x : Strm M i) : i < M.length := by
  obtain ⟨cs, p, l, sd, z, e⟩ := x
  exact at_lt e
theorem keep_up {M M' : List MO} {i : Nat} (u : Up M i M') : Keep [i] M M' := fun j m hj e => by
  rw [u.at_ j (by simpa using hj)]
  exact e
theorem keep_app {M J : List MO} {hs : List Nat} : Keep hs M (M ++ J) := fun j m _ e => app_l e
theorem Iv.up {C : Addr} {M M' : List MO} {i m : Nat} {q : Bool → HS} {md : Bool → D} (x : Iv C M i m q md) (u : Up M i M') (s : Strm M' i) : Iv C M' i m q md :=
  ⟨s, fun b => (x.hi b).keep (keep_up u) fun j hj z => x.d1 b (by rw [List.mem_singleton.mp z] at hj; exact hj), keep_up u _ _ (by simpa using Ne.symm x.d3) x.mo, x.d1, x.d2, x.d3, x.d4⟩
theorem Iv.app {C : Addr} {M J : List MO} {i m : Nat} {q : Bool → HS} {md : Bool → D} (x : Iv C M i m q md) : Iv C (M ++ J) i m q md :=
  ⟨x.st.keep (hs := []) keep_app (by simp), fun b => (x.hi b).keep (hs := []) keep_app (by simp), app_l x.mo, x.d1, x.d2, x.d3, x.d4⟩
theorem Hi.lt {C : Addr} {M : List MO} {h p f : Nat} {past fut : List S} {st : S} (x : Hi C M h p f past st fut) : ∀ j ∈ [h, p, f], j < M.length := fun j hj => by
  rcases List.mem_cons.mp hj with rfl | hj
  · exact at_lt x.ob
  · rcases List.mem_cons.mp hj with rfl | hj
    · exact at_lt x.pa
    · rcases List.mem_cons.mp hj with rfl | hj
      · exact at_lt x.fu
      · cases hj
/-- the history b moved -/
def upq (q : Bool → HS) (b : Bool) (y : HS) : Bool → HS := fun c => if c = b then y else q c
theorem Iv.moved {C : Addr} {M M' : List MO} {i m f' : Nat} {q : Bool → HS} {md : Bool → D} {a c : List S} {s : S} (b : Bool) (x : Iv C M i m q md) (hf : f' = (q b).f ∨ M.length ≤ f') (hi : Hi C M' (q b).h (q b).p f' a s c) (k : Keep [(q b).h, (q b).p, (q b).f] M M') :
    Iv C M' i m (upq q b ⟨(q b).h, (q b).p, f', a, s, c⟩) md := by
  have nb : ∀ c : Bool, c ≠ b → c = !b := fun c h => by cases b <;> cases c <;> simp_all
  have ml : m < M.length := at_lt x.mo
  have il : i < M.length := x.st.lt
  have mem : ∀ j, j < M.length → j ∈ [(q b).h, (q b).p, f'] → j ∈ (q b).ix := fun j hj h => by
    unfold HS.ix
    rcases hf with e | e
    · rw [← e]; exact h
    · simp only [List.mem_cons, List.not_mem_nil, or_false] at h ⊢
      omega
  refine ⟨x.st.keep k (x.d1 b), fun c => ?_, k _ _ (x.d2 b) x.mo, fun c => ?_, fun c => ?_, x.d3, fun c j hj => ?_⟩
  · unfold upq
    by_cases h : c = b
    · rw [if_pos h]; exact hi
    · rw [if_neg h]
      refine (x.hi c).keep k fun j hj z => ?_
      have e := nb c h
      subst e
      exact x.d4 b j z hj
  · unfold upq
    by_cases h : c = b
    · rw [if_pos h]
      exact fun z => x.d1 b (mem i il z)
    · rw [if_neg h]; exact x.d1 c
  · unfold upq
    by_cases h : c = b
    · rw [if_pos h]
      exact fun z => x.d2 b (mem m ml z)
    · rw [if_neg h]; exact x.d2 c
  · unfold upq at hj ⊢
    by_cases h : c = b
    · subst h
      rw [if_pos rfl] at hj
      rw [if_neg (by cases c <;> simp)]
      intro z
      exact x.d4 c j (mem j ((x.hi (!c)).lt j z) hj) z
    · have e := nb c h
      subst e
      rw [if_neg (by cases b <;> simp)] at hj
      rw [if_pos (by simp)]
      intro z
      have z2 := mem j ((x.hi (!b)).lt j hj) z
      exact x.d4 b j z2 hj
theorem Iv.set {C : Addr} {M : List MO} {i m : Nat} {q : Bool → HS} {md md' : Bool → D} (x : Iv C M i m q md) : Iv C (M.set m (.lst [md' false, md' true])) i m q md' := by
  have k : Keep [m] M (M.set m (.lst [md' false, md' true])) := fun j o hj e => set_ne (by simpa using hj) e
  exact ⟨x.st.keep k (by simpa using x.d3), fun b => (x.hi b).keep k fun j hj z => x.d2 b (by rw [List.mem_singleton.mp z] at hj; exact hj), set_at x.mo, x.d1, x.d2, x.d3, x.d4⟩
theorem at_b (md : Bool → D) (b : Bool) : atI [md false, md true] (if b = true then 1 else 0) = some (md b) := by cases b <;> rfl
theorem set_b (md : Bool → D) (b : Bool) (y : D) : ∃ m, ixN [md false, md true].length (if b = true then 1 else 0) = some m ∧ [md false, md true].set m y = [(fun c => if c = b then y else md c) false, (fun c => if c = b then y else md c) true] := by
  cases b with
  | false => exact ⟨0, rfl, rfl⟩
  | true => exact ⟨1, rfl, rfl⟩
end P93
namespace P93
open PySem L2 StX DL
local macro_rules | `(tactic| walk_at "lt") => `(tactic| first
  | assumption | omega | (simp only [List.length_set, List.length_append, List.length_cons, List.length_nil]; first | omega | exact at_lt (by assumption) | exact Nat.lt_of_lt_of_le (at_lt (by assumption)) (by omega)) | exact at_lt (by assumption))
local macro_rules | `(tactic| walk_at "ne") => `(tactic| first
  | assumption | exact Ne.symm (by assumption) | omega | (simp only [List.length_set, List.length_append, List.length_cons, List.length_nil]; omega))
local macro_rules | `(tactic| walk_at "mo") => `(tactic| first
  | assumption
  | ((refine' app_at ?hh ?ee); (case hh => first | rfl | omega | (simp only [List.length_set, List.length_append, List.length_cons, List.length_nil]; done) | (simp only [List.length_set, List.length_append, List.length_cons, List.length_nil]; omega)); (case ee => rfl))
  | ((refine' set_lt ?hh ?ee); (case hh => walk_at "lt"); (case ee => rfl))
  | exact set_ne (by walk_at "ne") (by walk_at "mo")
  | exact app_l (by walk_at "mo"))
local macro_rules | `(tactic| walk_at "x1") => `(tactic| first
  | (with_reducible first
    | refine sd_asg ?_ | refine sd_if ?_ | refine sd_ret ?_ | refine sd_drop ?_ | refine sd_next ?_ | refine sd_asgG ?_
    | refine xe_var rfl ?_ | refine xe_ty ?_ | refine xe_gl ?_ | refine xe_int ?_ | refine xe_str ?_ | refine xe_bl ?_ | refine xe_non ?_ | refine xe_op ?_ | refine xe_un ?_ | refine xe_cb ?_
    | refine xa_nil ?_ | refine xa_cons ?_ | refine xt_test ?_ | refine xt_and ?_ | refine xt_or ?_ | refine xt_not ?_ | refine xt_tru ?_ | refine xe_if ?_ | refine xe_andV ?_ | refine xe_orV ?_ | refine xe_notV ?_ | refine sd_fld ?_ | refine xe_fld ?_ | refine xe_meth ?_ | refine xe_bm0 ?_ | refine xe_chain ?_ | refine DL.xe_methE ?_ | refine xe_make ?_ | refine xe_sl ?_ | refine xp_none ?_ | refine xp_some ?_ | refine DL.xe_callE ?_ | refine DL.xe_callH ?_ | refine DL.xe_xf ?_ | refine xo_isN ?_ | refine xo_notN ?_
    | refine xo_addI ?_ | refine xo_i ?_ | refine xo_b ?_ | refine xu_i ?_ | refine xo_eqI ?_ | refine xo_neI ?_ | refine xo_eqS ?_ | refine xo_neS ?_
    | refine xc_intI ?_ | refine xc_intB ?_ | refine xe_call ?_
    | refine ⟨_, rfl, ?_⟩ | refine L2.iteF ?_ | refine L2.iteT ?_)
  | ((with_reducible refine' xo_ixL rfl ?k1 ?_); (case k1 => first | rfl | assumption))
  | ((with_reducible refine' xo_mulL ?k1 ?k2 ?_); (case k1 => omega); (case k2 => omega))
  | ((with_reducible refine' xo_mulR ?k1 ?k2 ?_); (case k1 => omega); (case k2 => omega))
  | ((with_reducible refine' xo_modP ?k1 ?_); (case k1 => omega))
  | ((with_reducible refine' xo_divP ?k1 ?k2 ?_); (case k1 => omega); (case k2 => omega))
  | ((with_reducible refine' xo_powP ?k1 ?k2 ?k3 ?_); (case k1 => decide); (case k2 => decide); (case k3 => decide))
  | ((with_reducible refine' xe_bm (xe_var rfl (And.intro (tyD_ptr ?k1) ?_))); (case k1 => walk_at "mo"))
  | ((with_reducible refine' xm_append ?k1 ?k2 ?_); (case k1 => walk_at "mo"); (case k2 => first | omega | (simp only [List.length_map]; omega)))
  | ((with_reducible refine' xo_ixL (litems_ptr ?k1) ?k2 ?_); (case k1 => walk_at "mo"); (case k2 => first | rfl | assumption))
  | ((with_reducible refine xg_setL ?_))
  | ((with_reducible refine' ⟨_, _, _, _, rfl, rfl, ?k1, ?k2, ?_⟩); (case k1 => walk_at "mo"); (case k2 => rfl))
  | ((with_reducible refine' xc_lenL rfl ?_))
  | ((with_reducible refine' xc_lenL (litems_ptr ?k1) ?_); (case k1 => walk_at "mo"))
  | ((with_reducible refine' ⟨_, _, _, rfl, ?k1, ?k2, ?k3, ?k4, ?_⟩); (case k1 => walk_at "mo"); (case k2 => assumption); (case k3 => assumption); (case k4 => first | decide | exact Nat.le_of_ble_eq_true rfl))
  | ((with_reducible refine' fldP ?k1 ?k2 ?k3 ?k4 ?_); (case k1 => walk_at "mo"); (case k2 => assumption); (case k3 => assumption); (case k4 => rfl))
  | ((with_reducible refine' methP ?k1 ?k2 ?_); (case k1 => walk_at "mo"); (case k2 => rfl))
  | ((with_reducible refine' xe_bm0 (xe_var rfl (And.intro (tyD_ptr ?k1) ?_))); (case k1 => walk_at "mo"))
  | ((with_reducible refine' And.intro (tyD_ptr ?k1) ?_); (case k1 => walk_at "mo"))
  | (with_reducible refine xe_bm ?_)
  | ((with_reducible refine' xm_popS ?k1 ?_); (case k1 => walk_at "mo"))
  | ((with_reducible refine' ifTru ?k1 ?_); (case k1 => rfl)) | ((with_reducible refine' ifFal ?k1 ?_); (case k1 => rfl))
  | (refine ⟨_, _, _, rfl, rfl, rfl, ?_⟩))
local macro_rules | `(tactic| walk_at "xe") => `(tactic| first
  | (with_reducible refine sd_seq ?_)
  | walk_at "x1")
/-- the word that is due -/
def due : Bool → Str
  | true => "done"
  | false => "nothing"
section
variable {P : Program} {w : World} {K : PySem.W.Frag} {mg : Str → Option Value} {base : Heap}
theorem sc_law : FnScope ["script", "s", "firsts", "histories", "models", "k", "at", "way", "state", "now", "future", "due"] ["script"] (defScope s_law) := ⟨rfl, rfl, rfl, by decide +kernel, rfl, by decide +kernel, by decide +kernel⟩
theorem ok_law (T : Txt P K mg) : FnOk P w K mg base CX0 9 T.a_law T.fd_law ["script"] (FS K pr_law) := by
  refine T.F_law.ok sc_law (fs_len fun ds M Φ Ψ h => by obtain ⟨cs, rfl, _⟩ := h; rfl) fun cdv A outer s H vs Q E hr h => ?_
  refine ⟨_, (pss_cons (ps_set (i := 1) sc_law.nd rfl (Or.inl rfl) (pe_call (ok_law_stream T) (hr.mono (by decide)) rfl T.m_law_stream T.k_law_stream T.b_law_stream .nil pass0 (pa_cons (pv 0) pa_nil)))
  (pss_cons (ps_set (i := 2) sc_law.nd rfl (Or.inl rfl) (pe_lst (pa_cons (pe_call (ok_law_state T) (hr.mono (by decide)) rfl T.m_law_state T.k_law_state T.b_law_state .nil pass0 (pa_cons (pv 1) pa_nil)) (pa_cons (pe_call (ok_law_state T) (hr.mono (by decide)) rfl T.m_law_state T.k_law_state T.b_law_state .nil pass0 (pa_cons (pv 1) pa_nil)) pa_nil))))
  (pss_cons (ps_set (i := 3) sc_law.nd rfl (Or.inl rfl) (pe_lst (pa_cons (pe_make T.M_History (ok_History_init T) (hr.mono (by decide)) rfl T.m_History T.b_History_init .nil pass0 (pa_cons (pe_ix ix_seq (pv 2) pe_int (fun _ _ => rfl)) pa_nil)) (pa_cons (pe_make T.M_History (ok_History_init T) (hr.mono (by decide)) rfl T.m_History T.b_History_init .nil pass0 (pa_cons (pe_ix ix_seq (pv 2) pe_int (fun _ _ => rfl)) pa_nil)) pa_nil))))
  (pss_cons (ps_set (i := 4) sc_law.nd rfl (Or.inl rfl) (pe_lst (pa_cons (pe_lst (pa_cons (pe_lst (pa_cons (pe_ix ix_seq (pv 2) pe_int (fun _ _ => rfl)) pa_nil)) (pa_cons (pe_lst pa_nil) pa_nil))) (pa_cons (pe_lst (pa_cons (pe_lst (pa_cons (pe_ix ix_seq (pv 2) pe_int (fun _ _ => rfl)) pa_nil)) (pa_cons (pe_lst pa_nil) pa_nil))) pa_nil))))
  (pss_cons (ps_for PassesOwn.never rfl (pi_range1 rfl T.z_range (pa_cons (pe_op op_addU pe_int (pe_call (ok_law_draw T) (hr.mono (by decide)) rfl T.m_law_draw T.k_law_draw T.b_law_draw .nil pass0 (pa_cons (pv 1) (pa_cons pe_int pa_nil)))) pa_nil)) (pg_name (i := 5) sc_law.nd rfl (Or.inl rfl))
  (pss_cons (ps_set (i := 6) sc_law.nd rfl (Or.inl rfl) (pe_callTy call_intU (by rfl) T.z_int (by decide +kernel) (pa_cons (pe_cmpR (op_eqU hr.units) (pe_call (ok_law_draw T) (hr.mono (by decide)) rfl T.m_law_draw T.k_law_draw T.b_law_draw .nil pass0 (pa_cons (pv 1) (pa_cons pe_int pa_nil))) pe_int (nomark _)) pa_nil)))
  (pss_cons (ps_set (i := 7) sc_law.nd rfl (Or.inl rfl) (pe_call (ok_law_pick T) (hr.mono (by decide)) rfl T.m_law_pick T.k_law_pick T.b_law_pick .nil pass0 (pa_cons (pv 1) (pa_cons (pe_lst (pa_cons pe_int (pa_cons pe_int (pa_cons pe_int (pa_cons pe_int (pa_cons pe_int (pa_cons pe_int (pa_cons pe_int pa_nil)))))))) pa_nil))))
  (pss_cons (ps_set (i := 8) sc_law.nd rfl (Or.inl rfl) (pe_call (ok_law_state T) (hr.mono (by decide)) rfl T.m_law_state T.k_law_state T.b_law_state .nil pass0 (pa_cons (pv 1) pa_nil)))
  (pss_cons (ps_set (i := 9) sc_law.nd rfl (Or.inl rfl) (pe_ix ix_seq (pe_ix ix_seq (pv 4) (pv 6) (fun _ _ => rfl)) pe_int (fun _ _ => rfl)))
  (pss_cons (ps_set (i := 10) sc_law.nd rfl (Or.inl rfl) (pe_ix ix_seq (pe_ix ix_seq (pv 4) (pv 6) (fun _ _ => rfl)) pe_int (fun _ _ => rfl)))
  (pss_cons (ps_set (i := 11) sc_law.nd rfl (Or.inl rfl) pe_str)
  (pss_cons (ps_if (PW.pt (pw_or (PW.pt (pw_and (pt_cmpR (op_eqU hr.units) (pv 7) pe_int (nomark _)) (pw_and1 (pt_cmpR (op_eqU hr.units) (pe_callB call_lenU (by rfl) T.z_len PySem.boot_len (pa_cons (pv 9) pa_nil)) pe_int (nomark _))))) (pw_or1 (PW.pt (pw_and (pt_cmpR (op_eqU hr.units) (pv 7) pe_int (nomark _)) (pw_and1 (pt_cmpR (op_eqU hr.units) (pv 10) (pe_lst pa_nil) (nomark _))))))))
  (pss_one (ps_set (i := 11) sc_law.nd rfl (Or.inl rfl) pe_str))
  pss_nil)
  (pss_cons (ps_if (pt_cmpR (op_neU hr.units) (pe_call (ok_law_moved T) (hr.mono (by decide)) rfl T.m_law_moved T.k_law_moved T.b_law_moved .nil pass0 (pa_cons (pe_ix ix_seq (pv 3) (pv 6) (fun _ _ => rfl)) (pa_cons (pv 7) (pa_cons (pv 8) pa_nil)))) (pv 11) (nomark _))
  (pss_one (ps_ret pe_bl))
  pss_nil)
  (pss_cons (ps_if (PW.pt (pw_and (pt_cmpR (op_eqU hr.units) (pv 11) pe_str (nomark _)) (pw_and1 (pt_cmpR (op_eqU hr.units) (pv 7) pe_int (nomark _)))))
  (pss_one (ps_asg (pe_lst (pa_cons (pe_op op_addU (pv 9) (pe_lst (pa_cons (pv 8) pa_nil))) (pa_cons (pe_lst pa_nil) pa_nil))) (pg_sub (pv 4) (pv 6) set_list)))
  pss_nil)
  (pss_cons (ps_if (PW.pt (pw_and (pt_cmpR (op_eqU hr.units) (pv 11) pe_str (nomark _)) (pw_and1 (pt_cmpR (op_eqU hr.units) (pv 7) pe_int (nomark _)))))
  (pss_one (ps_asg (pe_lst (pa_cons (pe_slice sl_list (pv 9) po_none (po_some (pe_un un_neg pe_int))) (pa_cons (pe_op op_addU (pv 10) (pe_lst (pa_cons (pe_ix ix_seq (pv 9) (pe_op op_sub (pe_callB call_lenU (by rfl) T.z_len PySem.boot_len (pa_cons (pv 9) pa_nil)) pe_int) (fun _ _ => rfl)) pa_nil))) pa_nil))) (pg_sub (pv 4) (pv 6) set_list)))
  pss_nil)
  (pss_cons (ps_if (PW.pt (pw_and (pt_cmpR (op_eqU hr.units) (pv 11) pe_str (nomark _)) (pw_and1 (pt_cmpR (op_eqU hr.units) (pv 7) pe_int (nomark _)))))
  (pss_one (ps_asg (pe_lst (pa_cons (pe_op op_addU (pv 9) (pe_lst (pa_cons (pe_ix ix_seq (pv 10) (pe_op op_sub (pe_callB call_lenU (by rfl) T.z_len PySem.boot_len (pa_cons (pv 10) pa_nil)) pe_int) (fun _ _ => rfl)) pa_nil))) (pa_cons (pe_slice sl_list (pv 10) po_none (po_some (pe_un un_neg pe_int))) pa_nil))) (pg_sub (pv 4) (pv 6) set_list)))
  pss_nil)
  (pss_cons (ps_if (PW.pt (pw_and (pt_cmpR (op_eqU hr.units) (pe_op op_mod (pv 5) pe_int) pe_int (nomark _)) (pw_and1 (pt_not (pt_tru (pe_call (ok_law_same T) (hr.mono (by decide)) rfl T.m_law_same T.k_law_same T.b_law_same .nil pass0 (pa_cons (pe_ix ix_seq (pv 3) (pv 6) (fun _ _ => rfl)) (pa_cons (pe_ix ix_seq (pv 4) (pv 6) (fun _ _ => rfl)) pa_nil))) (by intro _; rfl))))))
  (pss_one (ps_ret pe_bl))
  pss_nil)
  (pss_one (ps_if (pt_cmpR (op_neU hr.units) (pe_fld (pe_ix ix_seq (pv 3) (pv 6) (fun _ _ => rfl)) rfl) (pe_ix ix_seq (pe_ix ix_seq (pe_ix ix_seq (pv 4) (pv 6) (fun _ _ => rfl)) pe_int (fun _ _ => rfl)) (pe_op op_sub (pe_callB call_lenU (by rfl) T.z_len PySem.boot_len (pa_cons (pe_ix ix_seq (pe_ix ix_seq (pv 4) (pv 6) (fun _ _ => rfl)) pe_int (fun _ _ => rfl)) pa_nil)) pe_int) (fun _ _ => rfl)) (nomark _))
  (pss_one (ps_ret pe_bl))
  pss_nil)))))))))))))))
  (pss_one (ps_ret (pe_and (pe_call (ok_law_same T) (hr.mono (by decide)) rfl T.m_law_same T.k_law_same T.b_law_same .nil pass0 (pa_cons (pe_ix ix_seq (pv 3) pe_int (fun _ _ => rfl)) (pa_cons (pe_ix ix_seq (pv 4) pe_int (fun _ _ => rfl)) pa_nil))) (pe_one (pe_call (ok_law_same T) (hr.mono (by decide)) rfl T.m_law_same T.k_law_same T.b_law_same .nil pass0 (pa_cons (pe_ix ix_seq (pv 3) pe_int (fun _ _ => rfl)) (pa_cons (pe_ix ix_seq (pv 4) pe_int (fun _ _ => rfl)) pa_nil)))))))))))), ?_⟩
  dsimp only [K_nox]
  refine fs_run (fun ds M Φ Ψ hs => ?_) h
  obtain ⟨cs, rfl, rfl, hl, k⟩ := hs
  change DL.SD K _ _ _ [some (.rol (cs.map D.int)), none, none, none, none, none, none, none, none, none, none, none] _ _
  have c1 := T.c_History
  have n1 := T.n_History_state
  repeat walk_at "xe"
  refine ⟨cs, rfl, hl, fun i M1 g1 l1 s1 => ?_⟩
  repeat walk_at "xe"
  refine xe_lst ?_
  repeat walk_at "xe"
  refine ⟨i, rfl, s1, fun x0 M2 u2 s2 => ?_⟩
  repeat walk_at "xe"
  refine ⟨i, rfl, s2, fun x1 M3 u3 s3 => ?_⟩
  repeat walk_at "xe"
  refine ⟨by simp, ?_⟩
  repeat walk_at "xe"
  refine xe_lst ?_
  repeat walk_at "xe"
  refine ⟨M3.length, x0, rfl, app_n, fun p0 f0 M4 hp0 hf0 hi0 k0 => ⟨rfl, ?_⟩⟩
  repeat walk_at "xe"
  refine ⟨M4.length, x1, rfl, app_n, fun p1 f1 M5 hp1 hf1 hi1 k1 => ⟨rfl, ?_⟩⟩
  repeat walk_at "xe"
  refine ⟨by simp, ?_⟩
  repeat walk_at "xe"
  refine xe_lstM ?_
  repeat walk_at "xe"
  refine xe_lst ?_
  repeat walk_at "xe"
  refine xe_lst ?_
  repeat walk_at "xe"
  refine ⟨by simp, ?_⟩
  repeat walk_at "xe"
  refine xe_lst ?_
  repeat walk_at "xe"
  refine ⟨by simp, ?_⟩
  repeat walk_at "xe"
  refine ⟨by simp, ?_⟩
  repeat walk_at "xe"
  refine xe_lst ?_
  repeat walk_at "xe"
  refine xe_lst ?_
  repeat walk_at "xe"
  refine ⟨by simp, ?_⟩
  repeat walk_at "xe"
  refine xe_lst ?_
  repeat walk_at "xe"
  refine ⟨by simp, ?_⟩
  repeat walk_at "xe"
  refine ⟨by simp, ?_⟩
  repeat walk_at "xe"
  refine ⟨by simp, ?_⟩
  repeat walk_at "xe"
  rw [List.length_append, List.length_cons, List.length_nil] at hp0 hf0 hp1 hf1
  have l30 := hi0.lt
  have l31 := hi1.lt
  have s4 : Strm M4 i := (s3.keep (hs := []) keep_app (by simp)).keep k0 (by have := s3.lt; simp; omega)
  have l3 := s3.lt
  have l4 := s4.lt
  have e0 : M3.length < M4.length := l30 _ (by simp)
  have e1 : p0 < M4.length := l30 _ (by simp)
  have e2 : f0 < M4.length := l30 _ (by simp)
  have e3 : M4.length < M5.length := l31 _ (by simp)
  have e4 : p1 < M5.length := l31 _ (by simp)
  have e5 : f1 < M5.length := l31 _ (by simp)
  obtain ⟨q, hq0, hq1⟩ : ∃ q : Bool → HS, q false = ⟨M3.length, p0, f0, [], x0, []⟩ ∧ q true = ⟨M4.length, p1, f1, [], x1, []⟩ := ⟨fun b => if b = true then ⟨M4.length, p1, f1, [], x1, []⟩ else ⟨M3.length, p0, f0, [], x0, []⟩, rfl, rfl⟩
  have iv : Iv T.C_History (M5 ++ [MO.lst [(q false).md, (q true).md]]) i M5.length q (fun b => (q b).md) := by
    refine ⟨((s4.keep (hs := []) keep_app (by simp)).keep k1 (by simp; omega)).keep (hs := []) keep_app (by simp), fun b => ?_, app_n, fun b => ?_, fun b => ?_, by omega, fun b j hj => ?_⟩
    · cases b with
      | false =>
        rw [hq0]
        refine Hi.grow ?_ fun j m e => app_l e
        refine Hi.keep (hi0.grow fun j m e => app_l e) k1 fun j hj z => ?_
        have := l30 j hj
        rw [List.mem_singleton.mp z] at this
        omega
      | true =>
        rw [hq1]
        exact hi1.grow fun j m e => app_l e
    · cases b with
      | false => rw [hq0]; simp [HS.ix]; omega
      | true => rw [hq1]; simp [HS.ix]; omega
    · cases b with
      | false => rw [hq0]; simp [HS.ix]; omega
      | true => rw [hq1]; simp [HS.ix]; omega
    · cases b with
      | false => rw [hq0] at hj; show j ∉ (q true).ix; rw [hq1]; simp [HS.ix] at hj ⊢; omega
      | true => rw [hq1] at hj; show j ∉ (q false).ix; rw [hq0]; simp [HS.ix] at hj ⊢; omega
  have hz : ∀ b, (q b).past.length + (q b).fut.length ≤ 0 := fun b => by cases b <;> simp [hq0, hq1]
  have eM : ∀ x : List MO, x = x := fun _ => rfl
  have k0h : M3.length = (q false).h := by rw [hq0]
  have k1h : M4.length = (q true).h := by rw [hq1]
  have emd : [D.lst [D.lst [x0.d], D.lst []], D.lst [D.lst [x1.d], D.lst []]] = [(q false).md, (q true).md] := by rw [hq0, hq1]; rfl
  rw [emd]
  refine sd_rng1 ?_
  repeat walk_at "xe"
  refine ⟨i, 37, rfl, by decide, by decide, iv.st, fun z M6 z0 z1 u6 s6 => ?_⟩
  repeat walk_at "xe"
  refine ⟨by omega, by omega, fun kk es' M' => ∃ q' o5 o6 o7 o8 o9 o10 o11, es' = [some (D.rol (cs.map D.int)), some (D.ptr i), some (D.lst [x0.d, x1.d]), some (D.lst [D.ptr (q false).h, D.ptr (q true).h]), some (D.ptr M5.length), o5, o6, o7, o8, o9, o10, o11] ∧
    Iv T.C_History M' i M5.length q' (fun b => (q' b).md) ∧ (∀ b, (q' b).past.length + (q' b).fut.length ≤ kk) ∧ ∀ b, (q' b).h = (q b).h, ?_, ?_, ?_⟩
  · refine ⟨q, none, none, none, none, none, none, none, ?_, iv.up u6 s6, hz, fun _ => rfl⟩
    rw [← k0h, ← k1h]
    rfl
  · rintro kk es' M' hlt ⟨q', o5, o6, o7, o8, o9, o10, o11, rfl, iv', hb, hh⟩
    refine xg_name ?_
    repeat walk_at "xe"
    refine ⟨i, 4, rfl, by decide, by decide, iv'.st, fun zat M7 _ _ u7 s7 => ?_⟩
    have iv7 := iv'.up u7 s7
    repeat walk_at "xe"
    refine xe_lst ?_
    repeat walk_at "xe"
    refine ⟨by decide, ?_⟩
    repeat walk_at "xe"
    refine ⟨i, _, rfl, by decide, by decide, s7, fun jw dw M8 hw u8 s8 => ?_⟩
    have iv8 := iv7.up u8 s8
    obtain ⟨way, rfl, w0, w2⟩ : ∃ way : Int, dw = .int way ∧ 0 ≤ way ∧ way ≤ 2 := by
      match jw, hw with
      | 0, hw => cases hw; exact ⟨_, rfl, by decide, by decide⟩
      | 1, hw => cases hw; exact ⟨_, rfl, by decide, by decide⟩
      | 2, hw => cases hw; exact ⟨_, rfl, by decide, by decide⟩
      | 3, hw => cases hw; exact ⟨_, rfl, by decide, by decide⟩
      | 4, hw => cases hw; exact ⟨_, rfl, by decide, by decide⟩
      | 5, hw => cases hw; exact ⟨_, rfl, by decide, by decide⟩
      | 6, hw => cases hw; exact ⟨_, rfl, by decide, by decide⟩
    repeat walk_at "xe"
    refine ⟨i, rfl, s8, fun st' M9 u9 s9 => ?_⟩
    have iv9 := iv8.up u9 s9
    clear iv' iv7 iv8 s6 s7 s8
    generalize hbt : (zat == 0) = bt
    repeat walk_at "xe"
    have mo : M9[M5.length]? = some (.lst [(q' false).md, (q' true).md]) := iv9.mo
    have hx := iv9.hi bt
    have hbb := hb bt
    have hhb := hh bt
    obtain ⟨x, ex⟩ : ∃ x, x = q' bt := ⟨_, rfl⟩
    rw [← ex] at hx hbb hhb
    obtain ⟨h, p, f, past, st, fut⟩ := x
    have emd : atI [(q' false).md, (q' true).md] (if bt = true then 1 else 0) = some (.lst [.lst ((past ++ [st]).map S.d), .lst (fut.map S.d)]) := by
      rw [at_b (fun b => (q' b).md) bt]
      show some (q' bt).md = _
      rw [← ex]
    refine xo_ixL (litems_ptr mo) emd ?_
    repeat walk_at "x1"
    refine sd_seq ?_
    repeat walk_at "x1"
    refine sd_seq ?_
    repeat walk_at "x1"
    have hx : Hi T.C_History M9 h p f past st fut := hx
    have hbb : past.length + fut.length ≤ kk := hbb
    have hhb : h = (q bt).h := hhb
    refine sd_cut (fun es' M' => es' = [some (D.rol (cs.map D.int)), some (D.ptr i), some (D.lst [x0.d, x1.d]), some (D.lst [D.ptr (q false).h, D.ptr (q true).h]), some (D.ptr M5.length), some (.int kk), some (.int (if bt = true then 1 else 0)), some (.int way), some st'.d, some (.lst ((past ++ [st]).map S.d)), some (.lst (fut.map S.d)), some (.str (due (stp way past st fut st').isSome))] ∧ M' = M9) ?_ ?_
    · repeat walk_at "xe"
      have fin : ∀ (y : Str), y = (due (stp way past st fut st').isSome) → ∀ {es : List (Option D)}, es.set 11 (some (.str y)) = [some (D.rol (cs.map D.int)), some (D.ptr i), some (D.lst [x0.d, x1.d]), some (D.lst [D.ptr (q false).h, D.ptr (q true).h]), some (D.ptr M5.length), some (.int kk), some (.int (if bt = true then 1 else 0)), some (.int way), some st'.d, some (.lst ((past ++ [st]).map S.d)), some (.lst (fut.map S.d)), some (.str y)] → es.set 11 (some (.str y)) = [some (D.rol (cs.map D.int)), some (D.ptr i), some (D.lst [x0.d, x1.d]), some (D.lst [D.ptr (q false).h, D.ptr (q true).h]), some (D.ptr M5.length), some (.int kk), some (.int (if bt = true then 1 else 0)), some (.int way), some st'.d, some (.lst ((past ++ [st]).map S.d)), some (.lst (fut.map S.d)), some (.str (due (stp way past st fut st').isSome))] := fun y e es h => by rw [← e]; exact h
      refine ifE (fun h1 => ?_) (fun h1 => ?_)
      · subst h1
        repeat walk_at "xe"
        refine ifE (fun h2 => ?_) (fun h2 => ?_)
        · repeat walk_at "xe"
          refine ⟨fin _ ?_ rfl, rfl⟩
          have e : past = [] := by
            rw [List.length_map, List.length_append, List.length_cons, List.length_nil] at h2
            exact List.length_eq_zero_iff.mp (by omega)
          subst e
          rfl
        · repeat walk_at "xe"
          refine ⟨fin _ ?_ rfl, rfl⟩
          rw [List.length_map, List.length_append, List.length_cons, List.length_nil] at h2
          cases hp : past.getLast? with
          | none =>
            rw [List.getLast?_eq_none_iff.mp hp] at h2
            exact absurd rfl h2
          | some y =>
            have e : stp 1 past st fut st' = some (past.dropLast, y, fut ++ [st]) := by simp [stp, hp]
            rw [e]
            rfl
      · repeat walk_at "xe"
        refine ifE (fun h2 => ?_) (fun h2 => ?_)
        · subst h2
          repeat walk_at "xe"
          refine xe_lst ?_
          repeat walk_at "xe"
          refine ⟨by decide, ?_⟩
          refine xo_eqNil (ps := fut.map S.y) (by show py (.lst (fut.map S.d)) = _; unfold py; rw [pys_d]; rfl) (fit_ss fut) (by decide) ?_
          repeat walk_at "xe"
          rw [emp_map]
          refine ifB (fun h3 => ?_) (fun h3 => ?_)
          · repeat walk_at "xe"
            refine ⟨fin _ ?_ rfl, rfl⟩
            have e : fut = [] := List.isEmpty_iff.mp h3
            subst e
            rfl
          · repeat walk_at "xe"
            refine ⟨fin _ ?_ rfl, rfl⟩
            cases hp : fut.getLast? with
            | none =>
              rw [List.getLast?_eq_none_iff.mp hp] at h3
              cases h3
            | some y =>
              have e : stp 2 past st fut st' = some (past ++ [st], y, fut.dropLast) := by simp [stp, hp]
              rw [e]
              rfl
        · repeat walk_at "xe"
          refine ⟨fin _ ?_ rfl, rfl⟩
          obtain rfl : way = 0 := by omega
          rfl
    · rintro es' M' ⟨rfl, rfl⟩
      have ehist : atI [D.ptr (q false).h, D.ptr (q true).h] (if bt = true then 1 else 0) = some (.ptr h) := by
        rw [at_b (fun b => D.ptr (q b).h) bt, hhb]
      have hkk : kk < 100 := by omega
      have md7 : iv9 = iv9 := rfl
      refine sd_cut (fun es' M' => ∃ q2 : Bool → HS, es' = [some (D.rol (cs.map D.int)), some (D.ptr i), some (D.lst [x0.d, x1.d]), some (D.lst [D.ptr (q false).h, D.ptr (q true).h]), some (D.ptr M5.length), some (.int kk), some (.int (if bt = true then 1 else 0)), some (.int way), some st'.d, some (.lst ((past ++ [st]).map S.d)), some (.lst (fut.map S.d)), some (.str (due (stp way past st fut st').isSome))] ∧
        Iv T.C_History M' i M5.length q2 (fun b => (q' b).md) ∧ ((q2 = q' ∧ stp way past st fut st' = none) ∨ ∃ a b c f', stp way past st fut st' = some (a, b, c) ∧ q2 = upq q' bt ⟨h, p, f', a, b, c⟩)) ?_ ?_
      · repeat walk_at "xe"
        refine ⟨h, p, f, past, st, fut, way, st', rfl, hx, by omega, by omega, w0, w2, fun hs => ?_, fun a b c f' M10 hs hf hi' kp => ?_⟩
        · repeat walk_at "xe"
          rw [hs]
          repeat walk_at "xe"
          exact ⟨q', rfl, iv9, .inl ⟨rfl, rfl⟩⟩
        · repeat walk_at "xe"
          rw [hs]
          repeat walk_at "xe"
          have iv10 := iv9.moved (f' := f') (M' := M10) (a := a) (c := c) (s := b) bt (by rw [← ex]; exact hf) (by rw [← ex]; exact hi') (by rw [← ex]; exact kp)
          rw [← ex] at iv10
          exact ⟨_, rfl, iv10, .inr ⟨a, b, c, f', rfl, rfl⟩⟩
      · rintro es' M10 ⟨q2, rfl, iv10, hq⟩
        refine sd_assoc (sd_assoc (sd_cut (fun es' M' => ∃ q2 : Bool → HS, es' = [some (D.rol (cs.map D.int)), some (D.ptr i), some (D.lst [x0.d, x1.d]), some (D.lst [D.ptr (q false).h, D.ptr (q true).h]), some (D.ptr M5.length), some (.int kk), some (.int (if bt = true then 1 else 0)), some (.int way), some st'.d, some (.lst ((past ++ [st]).map S.d)), some (.lst (fut.map S.d)), some (.str (due (stp way past st fut st').isSome))] ∧
          Iv T.C_History M' i M5.length q2 (fun b => (q2 b).md) ∧ (∀ b, (q2 b).past.length + (q2 b).fut.length ≤ kk + 1) ∧ ∀ b, (q2 b).h = (q b).h) ?_ ?_))
        · have mo10 : M10[M5.length]? = some (.lst [(q' false).md, (q' true).md]) := iv10.mo
          rcases hq with ⟨rfl, hs⟩ | ⟨a, b, c, f', hs, rfl⟩
          · rw [hs]
            repeat walk_at "xe"
            exact ⟨q2, rfl, iv10, fun b => Nat.le_succ_of_le (hb b), hh⟩
          · rw [hs]
            -- what is written at the end
            have hdue : due (some (a, b, c)).isSome = "done" := rfl
            rw [hdue]
            have fin : ∀ {es' : List (Option D)} {y : D} {Φ' : List (Option D) → List MO → Prop}, y = .lst [.lst ((a ++ [b]).map S.d), .lst (c.map S.d)] → a.length + c.length ≤ kk + 1 → es'[4]? = some (some (.ptr M5.length)) → es'[6]? = some (some (.int (if bt = true then 1 else 0))) →
                (∀ M', (∃ q2 : Bool → HS, Iv T.C_History M' i M5.length q2 (fun b => (q2 b).md) ∧ (∀ b, (q2 b).past.length + (q2 b).fut.length ≤ kk + 1) ∧ ∀ b, (q2 b).h = (q b).h) → Φ' es' M') →
                XG K (fun c d x H => E c d H) (fun C fs x M' => Ψ C fs M') (gSub (tVar 4) (tVar 6) rSetL) y es' M10 Φ' := by
              rintro es' y Φ' rfl hl h4 h6 kf
              refine xg_setL (xe_var h4 (xe_var h6 ?_))
              obtain ⟨n, en, es⟩ := set_b (fun b => (q' b).md) bt (.lst [.lst ((a ++ [b]).map S.d), .lst (c.map S.d)])
              refine ⟨_, _, n, _, rfl, rfl, mo10, en, kf _ ⟨upq q' bt ⟨h, p, f', a, b, c⟩, ?_, fun d => ?_, fun d => ?_⟩⟩
              · have es2 : [(q' false).md, (q' true).md].set n (.lst [.lst ((a ++ [b]).map S.d), .lst (c.map S.d)]) = [(upq q' bt ⟨h, p, f', a, b, c⟩ false).md, (upq q' bt ⟨h, p, f', a, b, c⟩ true).md] := by
                  rw [es]
                  cases bt <;> rfl
                rw [es2]
                exact iv10.set (md' := fun d => (upq q' bt ⟨h, p, f', a, b, c⟩ d).md)
              · unfold upq
                by_cases e : d = bt
                · rw [if_pos e]; exact hl
                · rw [if_neg e]; exact Nat.le_succ_of_le (hb d)
              · unfold upq
                by_cases e : d = bt
                · rw [if_pos e, e]; exact hhb
                · rw [if_neg e]; exact hh d
            have hways : way = 0 ∨ way = 1 ∨ way = 2 := by omega
            have lp : ((past ++ [st]).map S.d).length ≤ 1000 := by simp; omega
            have lf : (fut.map S.d).length ≤ 1000 := by simp; omega
            rcases hways with rfl | rfl | rfl
            · obtain ⟨rfl, rfl, rfl⟩ : past ++ [st] = a ∧ st' = b ∧ [] = c := by simpa [stp] using hs
              repeat walk_at "xe"
              refine xe_lst ?_
              repeat walk_at "xe"
              refine xe_lst ?_
              repeat walk_at "xe"
              refine ⟨by simp, ?_⟩
              refine xo_addL (ds := (past ++ [st]).map S.d) (bs := [st'.d]) rfl rfl (by simp; omega) ?_
              repeat walk_at "xe"
              refine xe_lst ?_
              repeat walk_at "xe"
              refine ⟨by simp, ?_⟩
              repeat walk_at "xe"
              refine ⟨by simp, fin (by simp) (by simp; omega) rfl rfl fun M' hM' => ?_⟩
              repeat walk_at "xe"
              obtain ⟨q2, h1, h2, h3⟩ := hM'
              exact ⟨q2, rfl, h1, h2, h3⟩
            · obtain ⟨past', x, rfl⟩ : ∃ past' x, past = past' ++ [x] := by
                rcases List.eq_nil_or_concat past with e | ⟨q, x, e⟩
                · rw [e] at hs; cases hs
                · exact ⟨q, x, by simpa using e⟩
              obtain ⟨rfl, rfl, rfl⟩ : past' = a ∧ x = b ∧ fut ++ [st] = c := by simpa [stp] using hs
              repeat walk_at "xe"
              refine xe_lst ?_
              repeat walk_at "xe"
              refine xs_l rfl ?_
              have e1 : cutD ((past' ++ [x] ++ [st]).map S.d) none (some (-1)) = (past' ++ [x]).map S.d := by rw [List.map_append]; exact cut_last
              have e2 : ((past' ++ [x] ++ [st]).map S.d) = (past' ++ [x]).map S.d ++ [st.d] := by rw [List.map_append]; rfl
              repeat walk_at "xe"
              refine xe_lst ?_
              repeat walk_at "xe"
              refine xo_ixL (x := .lst ((past' ++ [x] ++ [st]).map S.d)) (d := st.d) rfl (by rw [e2]; exact atI_last (by simp; omega)) ?_
              repeat walk_at "xe"
              refine ⟨by simp, ?_⟩
              refine xo_addL (ds := fut.map S.d) (bs := [st.d]) rfl rfl (by simp; omega) ?_
              repeat walk_at "xe"
              have hbb2 : (past' ++ [x]).length + fut.length ≤ kk := hbb
              rw [List.length_append, List.length_cons, List.length_nil] at hbb2
              refine ⟨by simp, fin (by
                have e3 : cutD ((past' ++ [x] ++ [st]).map S.d) none (some (- 1)) = (past' ++ [x]).map S.d := e1
                rw [e3]
                simp) (by simp; omega) rfl rfl fun M' hM' => ?_⟩
              repeat walk_at "xe"
              obtain ⟨q2, h1, h2, h3⟩ := hM'
              exact ⟨q2, rfl, h1, h2, h3⟩
            · obtain ⟨fut', x, rfl⟩ : ∃ past' x, fut = past' ++ [x] := by
                rcases List.eq_nil_or_concat fut with e | ⟨q, x, e⟩
                · rw [e] at hs; cases hs
                · exact ⟨q, x, by simpa using e⟩
              obtain ⟨rfl, rfl, rfl⟩ : past ++ [st] = a ∧ x = b ∧ fut' = c := by simpa [stp] using hs
              have e1 : cutD ((fut' ++ [x]).map S.d) none (some (-1)) = fut'.map S.d := by rw [List.map_append]; exact cut_last
              have e2 : ((fut' ++ [x]).map S.d) = fut'.map S.d ++ [x.d] := by rw [List.map_append]; rfl
              repeat walk_at "xe"
              refine xe_lst ?_
              repeat walk_at "xe"
              refine xe_lst ?_
              repeat walk_at "xe"
              refine xo_ixL (x := .lst ((fut' ++ [x]).map S.d)) (d := x.d) rfl (by rw [e2]; exact atI_last (by simp)) ?_
              repeat walk_at "xe"
              refine ⟨by simp, ?_⟩
              refine xo_addL (ds := (past ++ [st]).map S.d) (bs := [x.d]) rfl rfl (by simp; omega) ?_
              repeat walk_at "xe"
              refine xs_l rfl ?_
              repeat walk_at "xe"
              have hbb2 : past.length + (fut' ++ [x]).length ≤ kk := hbb
              rw [List.length_append, List.length_cons, List.length_nil] at hbb2
              refine ⟨by simp, fin (by
                have e3 : cutD ((fut' ++ [x]).map S.d) none (some (- 1)) = fut'.map S.d := e1
                rw [e3]
                simp) (by simp; omega) rfl rfl fun M' hM' => ?_⟩
              repeat walk_at "xe"
              obtain ⟨q2, h1, h2, h3⟩ := hM'
              exact ⟨q2, rfl, h1, h2, h3⟩
        · rintro es' M11 ⟨q3, rfl, iv11, hb3, hh3⟩
          have mo11 : M11[M5.length]? = some (.lst [(q3 false).md, (q3 true).md]) := iv11.mo
          have hx3 := iv11.hi bt
          have hhb3 := hh3 bt
          obtain ⟨x3, ex3⟩ : ∃ x, x = q3 bt := ⟨_, rfl⟩
          rw [← ex3] at hx3 hhb3
          obtain ⟨h3, p3, f3, past3, st3, fut3⟩ := x3
          have hx3 : Hi T.C_History M11 h3 p3 f3 past3 st3 fut3 := hx3
          have hhb3 : h3 = (q bt).h := hhb3
          have emd3 : atI [(q3 false).md, (q3 true).md] (if bt = true then 1 else 0) = some (.lst [.lst ((past3 ++ [st3]).map S.d), .lst (fut3.map S.d)]) := by
            rw [at_b (fun b => (q3 b).md) bt]
            show some (q3 bt).md = _
            rw [← ex3]
          have ehist3 : atI [D.ptr (q false).h, D.ptr (q true).h] (if bt = true then 1 else 0) = some (.ptr h3) := by
            rw [at_b (fun b => D.ptr (q b).h) bt, hhb3]
          clear ehist hhb emd
          refine sd_cut (fun es' M' => es' = [some (D.rol (cs.map D.int)), some (D.ptr i), some (D.lst [x0.d, x1.d]), some (D.lst [D.ptr (q false).h, D.ptr (q true).h]), some (D.ptr M5.length), some (.int kk), some (.int (if bt = true then 1 else 0)), some (.int way), some st'.d, some (.lst ((past ++ [st]).map S.d)), some (.lst (fut.map S.d)), some (.str (due (stp way past st fut st').isSome))] ∧ ∃ J, M' = M11 ++ J) ?_ ?_
          · repeat walk_at "xe"
            refine ifE (fun h5 => ?_) (fun h5 => ?_)
            · repeat walk_at "xe"
              refine ⟨h3, p3, f3, past3, st3, fut3, _, rfl, hx3, fun J => ?_⟩
              repeat walk_at "xe"
              exact ⟨rfl, J, rfl⟩
            · repeat walk_at "xe"
              exact ⟨rfl, [], by simp⟩
          · rintro es' M12 ⟨rfl, J, rfl⟩
            have ob3 : (M11 ++ J)[h3]? = some (MO.ins T.C_History [("state", st3.d), ("past", .ptr p3), ("future", .ptr f3)]) := app_l hx3.ob
            have mo12 : (M11 ++ J)[M5.length]? = some (.lst [(q3 false).md, (q3 true).md]) := app_l mo11
            repeat walk_at "xe"
            have e2 : ((past3 ++ [st3]).map S.d) = past3.map S.d ++ [st3.d] := by rw [List.map_append]; rfl
            refine xo_ixL (x := .lst ((past3 ++ [st3]).map S.d)) (d := st3.d) rfl (by rw [e2]; exact atI_last (by simp)) ?_
            refine xo_neSame (pyM_d st3) (pyM_d st3) (fit_s st3) (by decide) ?_
            repeat walk_at "xe"
            exact ⟨q3, _, _, _, _, _, _, _, rfl, iv11.app, hb3, hh3⟩
  · rintro es' M' ⟨q', o5, o6, o7, o8, o9, o10, o11, rfl, iv', hb, hh⟩
    have mo' : M'[M5.length]? = some (.lst [(q' false).md, (q' true).md]) := iv'.mo
    repeat walk_at "xe"
    refine ⟨(q' false).h, (q' false).p, (q' false).f, (q' false).past, (q' false).st, (q' false).fut, _, by rw [hh], iv'.hi false, fun J => ?_⟩
    have mo2 : (M' ++ J)[M5.length]? = some (.lst [(q' false).md, (q' true).md]) := app_l mo'
    repeat walk_at "xe"
    refine ⟨(q' true).h, (q' true).p, (q' true).f, (q' true).past, (q' true).st, (q' true).fut, _, by rw [hh], (iv'.hi true).grow fun j m e => app_l e, fun J2 => ?_⟩
    exact .inl (k _)
end
end P93
namespace P93
open PySem L2 StX DL
theorem all_mk {l : PySem.W.OpenLaw} {P : Program} {w : World} {K : PySem.W.Frag} {h : Heap} {mg : Str → Option Value} {fa : Addr} (hl : l.prog = P) (X : K.In h) (G : h.Ns mainGlobals mg) (hfa : mg "law" = some (.ref fa))
    {od_History_init an_History_init od_History_move an_History_move od_History_undo an_History_undo od_History_redo an_History_redo od_History_versions an_History_versions od_History_earlier an_History_earlier od_law_stream an_law_stream od_law_draw an_law_draw od_law_pick an_law_pick od_law_int an_law_int od_law_state an_law_state od_law_moved an_law_moved od_law_earlier an_law_earlier od_law_same an_law_same od_law an_law od_NoSuch_init : Option Addr} {sl_History_init sl_History_move sl_History_undo sl_History_redo sl_History_versions sl_History_earlier sl_law_stream sl_law_draw sl_law_pick sl_law_int sl_law_state sl_law_moved sl_law_earlier sl_law_same sl_law sl_NoSuch_init : Array (Option Value)}
    {C_DescribeError : Addr}
    {C_NoSuch : Addr}
    {nm_NoSuch qn_NoSuch : Str} {N_NoSuch : Addr} {bs_NoSuch : List Value} {bm_NoSuch : List Value} {sn_NoSuch : List Str} {sub_NoSuch : List Value} {ab_NoSuch : Bool} {col_NoSuch : Option Bool} {dd_NoSuch : Option Addr} {p0_NoSuch p1_NoSuch p2_NoSuch p3_NoSuch p5_NoSuch : Option Value}
    {a_NoSuch_init cc_NoSuch_init co_NoSuch_init : Addr} {oc_NoSuch_init dc_NoSuch_init pm_NoSuch_init ct_NoSuch_init cl_NoSuch_init ccl_NoSuch_init : Value} {cld_NoSuch_init ccd_NoSuch_init : Option Addr} {csl_NoSuch_init ccs_NoSuch_init : Array (Option Value)} {vs_NoSuch_init : Array Value} {file_NoSuch_init : Str} {tf_NoSuch_init : Tok}
    {C_NothingLeft : Addr}
    {C_History : Addr}
    {a_History_init : Addr} {oc_History_init kV_History_init dc_History_init pm_History_init cd_History_init ct_History_init : Value}
    {a_History_move : Addr} {oc_History_move kV_History_move dc_History_move pm_History_move cd_History_move ct_History_move : Value}
    {a_History_undo : Addr} {oc_History_undo kV_History_undo dc_History_undo pm_History_undo cd_History_undo ct_History_undo : Value}
    {a_History_redo : Addr} {oc_History_redo kV_History_redo dc_History_redo pm_History_redo cd_History_redo ct_History_redo : Value}
    {a_History_versions : Addr} {oc_History_versions kV_History_versions dc_History_versions pm_History_versions cd_History_versions ct_History_versions : Value}
    {a_History_earlier : Addr} {oc_History_earlier kV_History_earlier dc_History_earlier pm_History_earlier cd_History_earlier ct_History_earlier : Value}
    {a_law_stream : Addr} {oc_law_stream kV_law_stream dc_law_stream pm_law_stream cd_law_stream ct_law_stream : Value}
    {a_law_draw : Addr} {oc_law_draw kV_law_draw dc_law_draw pm_law_draw cd_law_draw ct_law_draw : Value}
    {a_law_pick : Addr} {oc_law_pick kV_law_pick dc_law_pick pm_law_pick cd_law_pick ct_law_pick : Value}
    {a_law_int : Addr} {oc_law_int kV_law_int dc_law_int pm_law_int cd_law_int ct_law_int : Value}
    {a_law_state : Addr} {oc_law_state kV_law_state dc_law_state pm_law_state cd_law_state ct_law_state : Value}
    {a_law_moved : Addr} {oc_law_moved kV_law_moved dc_law_moved pm_law_moved cd_law_moved ct_law_moved : Value}
    {a_law_earlier : Addr} {oc_law_earlier kV_law_earlier dc_law_earlier pm_law_earlier cd_law_earlier ct_law_earlier : Value}
    {a_law_same : Addr} {oc_law_same kV_law_same dc_law_same pm_law_same cd_law_same ct_law_same : Value}
    {a_law : Addr} {oc_law kV_law dc_law pm_law cd_law ct_law : Value}
    (z_len : PySem.W.nsIn K mainGlobals "len" = some none)
    (z_int : PySem.W.nsIn K mainGlobals "int" = some none)
    (z_str : PySem.W.nsIn K mainGlobals "str" = some none)
    (z_range : PySem.W.nsIn K mainGlobals "range" = some none)
    (z_isinstance : PySem.W.nsIn K mainGlobals "isinstance" = some none)
    (z_list : PySem.W.nsIn K mainGlobals "list" = some none)
    (z_bool : PySem.W.nsIn K mainGlobals "bool" = some none)
    (z_ValueError : PySem.W.nsIn K mainGlobals "ValueError" = some none)
    (m_DescribeError : PySem.W.nsIn K mainGlobals "DescribeError" = some (some (.ref C_DescribeError)))
    (k_DescribeError : PySem.W.keepIn K (.ref C_DescribeError) = true)
    (e1_DescribeError : PySem.W.findIn K (.ref C_DescribeError) "__getattribute__" = some (some (.builtin "BaseException.__getattribute__")))
    (e2_DescribeError : PySem.W.findIn K (.ref C_DescribeError) "__getattr__" = some none)
    (e3_DescribeError : PySem.W.subIn K (.ref C_DescribeError) (.type "BaseException") = some true)
    (e4_DescribeError : PySem.W.hasDictIn K C_DescribeError = true)
    (e5_DescribeError : PySem.W.findIn K (.ref C_DescribeError) "__class__" = some (some (.builtin "object.__class__")))
    (e6_DescribeError : PySem.W.specialIn K (.builtin "object.__class__") "__get__" = some (some (.builtin "getset_descriptor.__get__")))
    (e7_DescribeError : PySem.W.takesIn K (.builtin "object.__class__") = some true)
    (e8_DescribeError : PySem.W.mroIn K C_DescribeError (.type "object") = some true)
    (y_DescribeError : PySem.W.typeIn K (.ref C_DescribeError) = some (.type "type"))
    (x_DescribeError : PySem.W.excIn K C_DescribeError [.type "ValueError", .type "Exception", .type "BaseException", .type "object"] "ValueError.__new__" = true)
    (m_NoSuch : PySem.W.nsIn K mainGlobals "NoSuch" = some (some (.ref C_NoSuch)))
    (k_NoSuch : PySem.W.keepIn K (.ref C_NoSuch) = true)
    (e1_NoSuch : PySem.W.findIn K (.ref C_NoSuch) "__getattribute__" = some (some (.builtin "BaseException.__getattribute__")))
    (e2_NoSuch : PySem.W.findIn K (.ref C_NoSuch) "__getattr__" = some none)
    (e3_NoSuch : PySem.W.subIn K (.ref C_NoSuch) (.type "BaseException") = some true)
    (e4_NoSuch : PySem.W.hasDictIn K C_NoSuch = true)
    (e5_NoSuch : PySem.W.findIn K (.ref C_NoSuch) "__class__" = some (some (.builtin "object.__class__")))
    (e6_NoSuch : PySem.W.specialIn K (.builtin "object.__class__") "__get__" = some (some (.builtin "getset_descriptor.__get__")))
    (e7_NoSuch : PySem.W.takesIn K (.builtin "object.__class__") = some true)
    (e8_NoSuch : PySem.W.mroIn K C_NoSuch (.type "object") = some true)
    (y_NoSuch : PySem.W.typeIn K (.ref C_NoSuch) = some (.type "type"))
    (n_NoSuch_number : PySem.W.findIn K (.ref C_NoSuch) "number" = some none)
    (x_NoSuch : K.lookup C_NoSuch = some (excClassObj nm_NoSuch qn_NoSuch C_NoSuch N_NoSuch bs_NoSuch bm_NoSuch true sn_NoSuch sub_NoSuch ab_NoSuch col_NoSuch dd_NoSuch p0_NoSuch p1_NoSuch p2_NoSuch p3_NoSuch p5_NoSuch "ValueError.__new__"))
    (r_NoSuch : PySem.HandSPX.refsVE bm_NoSuch = true)
    (s_NoSuch : PySem.W.findIn K (.ref C_NoSuch) "__setattr__" = some (some (.builtin "object.__setattr__")))
    (a1_NoSuch_init : PySem.W.findIn K (.ref C_NoSuch) "__init__" = some (some (.ref a_NoSuch_init)))
    (t1_NoSuch_init : PySem.W.typeIn K (.ref a_NoSuch_init) = some (.type "function"))
    (l_NoSuch_init : K.lookup a_NoSuch_init = some ⟨oc_NoSuch_init, od_NoSuch_init, .func ((nf_NoSuch_init cc_NoSuch_init co_NoSuch_init).fd dc_NoSuch_init pm_NoSuch_init ct_NoSuch_init), sl_NoSuch_init⟩)
    (c_NoSuch_init : PySem.W.codeIn K (.ref co_NoSuch_init) "NoSuch.__init__" = true)
    (g_NoSuch_init : K.lookup cc_NoSuch_init = some ⟨cl_NoSuch_init, cld_NoSuch_init, .cell (some (.ref C_NoSuch)), csl_NoSuch_init⟩)
    (o_NoSuch_init : K.lookup co_NoSuch_init = some ⟨ccl_NoSuch_init, ccd_NoSuch_init, .fields vs_NoSuch_init, ccs_NoSuch_init⟩)
    (v_NoSuch_init : vs_NoSuch_init[2]? = some (.str file_NoSuch_init tf_NoSuch_init))
    (w_NoSuch_init : ((P.main.file : Str) == file_NoSuch_init) = true)
    (u1_NoSuch_init : PySem.W.ks_superIn K C_NoSuch C_NoSuch "__init__" = some (some (.builtin "ValueError.__init__")))
    (u2_NoSuch_init : PySem.W.mroIn K C_NoSuch (.ref C_NoSuch) = some true)
    (u3_NoSuch_init : PySem.W.subIn K (.ref C_NoSuch) (.type "ValueError") = some true)
    (u4_NoSuch_init : PySem.W.nsIn K PySem.cStatics "thirdparty.any" = some none)
    (u5_NoSuch_init : PySem.W.nsIn K mainGlobals "super" = some none)
    (u6_NoSuch_init : (P.main.scope.names.lookup ("super" : Str)).isSome = false)
    (u7_NoSuch_init : PySem.W.excInitIn K C_NoSuch [.type "ValueError", .type "Exception", .type "BaseException", .type "object"] "ValueError.__new__" = true)
    (m_NothingLeft : PySem.W.nsIn K mainGlobals "NothingLeft" = some (some (.ref C_NothingLeft)))
    (k_NothingLeft : PySem.W.keepIn K (.ref C_NothingLeft) = true)
    (e1_NothingLeft : PySem.W.findIn K (.ref C_NothingLeft) "__getattribute__" = some (some (.builtin "BaseException.__getattribute__")))
    (e2_NothingLeft : PySem.W.findIn K (.ref C_NothingLeft) "__getattr__" = some none)
    (e3_NothingLeft : PySem.W.subIn K (.ref C_NothingLeft) (.type "BaseException") = some true)
    (e4_NothingLeft : PySem.W.hasDictIn K C_NothingLeft = true)
    (e5_NothingLeft : PySem.W.findIn K (.ref C_NothingLeft) "__class__" = some (some (.builtin "object.__class__")))
    (e6_NothingLeft : PySem.W.specialIn K (.builtin "object.__class__") "__get__" = some (some (.builtin "getset_descriptor.__get__")))
    (e7_NothingLeft : PySem.W.takesIn K (.builtin "object.__class__") = some true)
    (e8_NothingLeft : PySem.W.mroIn K C_NothingLeft (.type "object") = some true)
    (y_NothingLeft : PySem.W.typeIn K (.ref C_NothingLeft) = some (.type "type"))
    (x_NothingLeft : PySem.W.excIn K C_NothingLeft [.type "ValueError", .type "Exception", .type "BaseException", .type "object"] "ValueError.__new__" = true)
    (m_History : PySem.W.nsIn K mainGlobals "History" = some (some (.ref C_History)))
    (pg_History : PySem.W.plainGet K C_History Str.empty = true)
    (hd_History : PySem.W.hasDictIn K C_History = true)
    (po_History : PySem.W.plainOver K C_History = true)
    (sa_History : PySem.W.findIn K (.ref C_History) "__setattr__" = some (some (.builtin "object.__setattr__")))
    (n_History_state : PySem.W.findIn K (.ref C_History) "state" = some none)
    (n_History_past : PySem.W.findIn K (.ref C_History) "past" = some none)
    (n_History_future : PySem.W.findIn K (.ref C_History) "future" = some none)
    (a1_History_init : PySem.W.findIn K (.ref C_History) "__init__" = some (some (.ref a_History_init)))
    (i_History_init : PySem.W.isFn K (.ref a_History_init) = true)
    (l_History_init : K.lookup a_History_init = some ⟨oc_History_init, od_History_init, .func (PySem.W.fnOf "__init__" "History.__init__" (defArgs s_History_init) (defBody s_History_init) (defScope s_History_init) .none kV_History_init dc_History_init pm_History_init an_History_init cd_History_init ct_History_init), sl_History_init⟩)
    (c_History_init : PySem.W.codeIn K cd_History_init "History.__init__" = true)
    (k_History_init : PySem.W.keepIn K (.ref a_History_init) = true)
    (mk_History : PySem.W.makesIn K C_History = true)
    (kc_History : PySem.W.keepIn K (.ref C_History) = true)
    (a1_History_move : PySem.W.findIn K (.ref C_History) "move" = some (some (.ref a_History_move)))
    (i_History_move : PySem.W.isFn K (.ref a_History_move) = true)
    (l_History_move : K.lookup a_History_move = some ⟨oc_History_move, od_History_move, .func (PySem.W.fnOf "move" "History.move" (defArgs s_History_move) (defBody s_History_move) (defScope s_History_move) .none kV_History_move dc_History_move pm_History_move an_History_move cd_History_move ct_History_move), sl_History_move⟩)
    (c_History_move : PySem.W.codeIn K cd_History_move "History.move" = true)
    (k_History_move : PySem.W.keepIn K (.ref a_History_move) = true)
    (a1_History_undo : PySem.W.findIn K (.ref C_History) "undo" = some (some (.ref a_History_undo)))
    (i_History_undo : PySem.W.isFn K (.ref a_History_undo) = true)
    (l_History_undo : K.lookup a_History_undo = some ⟨oc_History_undo, od_History_undo, .func (PySem.W.fnOf "undo" "History.undo" (defArgs s_History_undo) (defBody s_History_undo) (defScope s_History_undo) .none kV_History_undo dc_History_undo pm_History_undo an_History_undo cd_History_undo ct_History_undo), sl_History_undo⟩)
    (c_History_undo : PySem.W.codeIn K cd_History_undo "History.undo" = true)
    (k_History_undo : PySem.W.keepIn K (.ref a_History_undo) = true)
    (a1_History_redo : PySem.W.findIn K (.ref C_History) "redo" = some (some (.ref a_History_redo)))
    (i_History_redo : PySem.W.isFn K (.ref a_History_redo) = true)
    (l_History_redo : K.lookup a_History_redo = some ⟨oc_History_redo, od_History_redo, .func (PySem.W.fnOf "redo" "History.redo" (defArgs s_History_redo) (defBody s_History_redo) (defScope s_History_redo) .none kV_History_redo dc_History_redo pm_History_redo an_History_redo cd_History_redo ct_History_redo), sl_History_redo⟩)
    (c_History_redo : PySem.W.codeIn K cd_History_redo "History.redo" = true)
    (k_History_redo : PySem.W.keepIn K (.ref a_History_redo) = true)
    (a1_History_versions : PySem.W.findIn K (.ref C_History) "versions" = some (some (.ref a_History_versions)))
    (i_History_versions : PySem.W.isFn K (.ref a_History_versions) = true)
    (l_History_versions : K.lookup a_History_versions = some ⟨oc_History_versions, od_History_versions, .func (PySem.W.fnOf "versions" "History.versions" (defArgs s_History_versions) (defBody s_History_versions) (defScope s_History_versions) .none kV_History_versions dc_History_versions pm_History_versions an_History_versions cd_History_versions ct_History_versions), sl_History_versions⟩)
    (c_History_versions : PySem.W.codeIn K cd_History_versions "History.versions" = true)
    (k_History_versions : PySem.W.keepIn K (.ref a_History_versions) = true)
    (a1_History_earlier : PySem.W.findIn K (.ref C_History) "earlier" = some (some (.ref a_History_earlier)))
    (i_History_earlier : PySem.W.isFn K (.ref a_History_earlier) = true)
    (l_History_earlier : K.lookup a_History_earlier = some ⟨oc_History_earlier, od_History_earlier, .func (PySem.W.fnOf "earlier" "History.earlier" (defArgs s_History_earlier) (defBody s_History_earlier) (defScope s_History_earlier) .none kV_History_earlier dc_History_earlier pm_History_earlier an_History_earlier cd_History_earlier ct_History_earlier), sl_History_earlier⟩)
    (c_History_earlier : PySem.W.codeIn K cd_History_earlier "History.earlier" = true)
    (k_History_earlier : PySem.W.keepIn K (.ref a_History_earlier) = true)
    (a1_law_stream : PySem.W.nsIn K mainGlobals "_law_stream" = some (some (.ref a_law_stream)))
    (l_law_stream : K.lookup a_law_stream = some ⟨oc_law_stream, od_law_stream, .func (PySem.W.fnOf "_law_stream" "_law_stream" (defArgs s_law_stream) (defBody s_law_stream) (defScope s_law_stream) .none kV_law_stream dc_law_stream pm_law_stream an_law_stream cd_law_stream ct_law_stream), sl_law_stream⟩)
    (c_law_stream : PySem.W.codeIn K cd_law_stream "_law_stream" = true)
    (k_law_stream : PySem.W.keepIn K (.ref a_law_stream) = true)
    (a1_law_draw : PySem.W.nsIn K mainGlobals "_law_draw" = some (some (.ref a_law_draw)))
    (l_law_draw : K.lookup a_law_draw = some ⟨oc_law_draw, od_law_draw, .func (PySem.W.fnOf "_law_draw" "_law_draw" (defArgs s_law_draw) (defBody s_law_draw) (defScope s_law_draw) .none kV_law_draw dc_law_draw pm_law_draw an_law_draw cd_law_draw ct_law_draw), sl_law_draw⟩)
    (c_law_draw : PySem.W.codeIn K cd_law_draw "_law_draw" = true)
    (k_law_draw : PySem.W.keepIn K (.ref a_law_draw) = true)
    (a1_law_pick : PySem.W.nsIn K mainGlobals "_law_pick" = some (some (.ref a_law_pick)))
    (l_law_pick : K.lookup a_law_pick = some ⟨oc_law_pick, od_law_pick, .func (PySem.W.fnOf "_law_pick" "_law_pick" (defArgs s_law_pick) (defBody s_law_pick) (defScope s_law_pick) .none kV_law_pick dc_law_pick pm_law_pick an_law_pick cd_law_pick ct_law_pick), sl_law_pick⟩)
    (c_law_pick : PySem.W.codeIn K cd_law_pick "_law_pick" = true)
    (k_law_pick : PySem.W.keepIn K (.ref a_law_pick) = true)
    (a1_law_int : PySem.W.nsIn K mainGlobals "_law_int" = some (some (.ref a_law_int)))
    (l_law_int : K.lookup a_law_int = some ⟨oc_law_int, od_law_int, .func (PySem.W.fnOf "_law_int" "_law_int" (defArgs s_law_int) (defBody s_law_int) (defScope s_law_int) .none kV_law_int dc_law_int pm_law_int an_law_int cd_law_int ct_law_int), sl_law_int⟩)
    (c_law_int : PySem.W.codeIn K cd_law_int "_law_int" = true)
    (k_law_int : PySem.W.keepIn K (.ref a_law_int) = true)
    (a1_law_state : PySem.W.nsIn K mainGlobals "_law_state" = some (some (.ref a_law_state)))
    (l_law_state : K.lookup a_law_state = some ⟨oc_law_state, od_law_state, .func (PySem.W.fnOf "_law_state" "_law_state" (defArgs s_law_state) (defBody s_law_state) (defScope s_law_state) .none kV_law_state dc_law_state pm_law_state an_law_state cd_law_state ct_law_state), sl_law_state⟩)
    (c_law_state : PySem.W.codeIn K cd_law_state "_law_state" = true)
    (k_law_state : PySem.W.keepIn K (.ref a_law_state) = true)
    (a1_law_moved : PySem.W.nsIn K mainGlobals "_law_moved" = some (some (.ref a_law_moved)))
    (l_law_moved : K.lookup a_law_moved = some ⟨oc_law_moved, od_law_moved, .func (PySem.W.fnOf "_law_moved" "_law_moved" (defArgs s_law_moved) (defBody s_law_moved) (defScope s_law_moved) .none kV_law_moved dc_law_moved pm_law_moved an_law_moved cd_law_moved ct_law_moved), sl_law_moved⟩)
    (c_law_moved : PySem.W.codeIn K cd_law_moved "_law_moved" = true)
    (k_law_moved : PySem.W.keepIn K (.ref a_law_moved) = true)
    (a1_law_earlier : PySem.W.nsIn K mainGlobals "_law_earlier" = some (some (.ref a_law_earlier)))
    (l_law_earlier : K.lookup a_law_earlier = some ⟨oc_law_earlier, od_law_earlier, .func (PySem.W.fnOf "_law_earlier" "_law_earlier" (defArgs s_law_earlier) (defBody s_law_earlier) (defScope s_law_earlier) .none kV_law_earlier dc_law_earlier pm_law_earlier an_law_earlier cd_law_earlier ct_law_earlier), sl_law_earlier⟩)
    (c_law_earlier : PySem.W.codeIn K cd_law_earlier "_law_earlier" = true)
    (k_law_earlier : PySem.W.keepIn K (.ref a_law_earlier) = true)
    (a1_law_same : PySem.W.nsIn K mainGlobals "_law_same" = some (some (.ref a_law_same)))
    (l_law_same : K.lookup a_law_same = some ⟨oc_law_same, od_law_same, .func (PySem.W.fnOf "_law_same" "_law_same" (defArgs s_law_same) (defBody s_law_same) (defScope s_law_same) .none kV_law_same dc_law_same pm_law_same an_law_same cd_law_same ct_law_same), sl_law_same⟩)
    (c_law_same : PySem.W.codeIn K cd_law_same "_law_same" = true)
    (k_law_same : PySem.W.keepIn K (.ref a_law_same) = true)
    (a1_law : PySem.W.nsIn K mainGlobals "law" = some (some (.ref a_law)))
    (l_law : K.lookup a_law = some ⟨oc_law, od_law, .func (PySem.W.fnOf "law" "law" (defArgs s_law) (defBody s_law) (defScope s_law) .none kV_law dc_law pm_law an_law cd_law ct_law), sl_law⟩)
    (c_law : PySem.W.codeIn K cd_law "law" = true)
    (k_law : PySem.W.keepIn K (.ref a_law) = true)
    (is_NothingLeft_DescribeError : PySem.W.kitOne K (.ref C_NothingLeft) (.ref C_DescribeError) = some true)
    (is_NothingLeft_ValueError : PySem.W.kitOne K (.ref C_NothingLeft) (.type "ValueError") = some true)
    (is_NothingLeft_NoSuch : PySem.W.kitOne K (.ref C_NothingLeft) (.ref C_NoSuch) = some false)
    (is_NoSuch_DescribeError : PySem.W.kitOne K (.ref C_NoSuch) (.ref C_DescribeError) = some true)
    (is_NoSuch_NothingLeft : PySem.W.kitOne K (.ref C_NoSuch) (.ref C_NothingLeft) = some false)
    (ex_NothingLeft_NothingLeft : PySem.W.exmOne K (.ref C_NothingLeft) (.ref C_NothingLeft) = some true)
    (ex_NoSuch_NoSuch : PySem.W.exmOne K (.ref C_NoSuch) (.ref C_NoSuch) = some true)
    : ∃ fd : FuncData, (∀ (s : Shared) (v : Value), BindsTo s fd ⟨[v], []⟩ [("script", v)]) ∧ ∀ base : Heap, K.In base → base.Ns mainGlobals mg → FnOk l.prog w K mg base CX0 9 fa fd ["script"] (FS K pr_law) := by
  subst hl
  have e := hfa.symm.trans (PySem.W.mg_of X G a1_law)
  obtain rfl : a_law = fa := by cases e; rfl
  let T : Txt l.prog K mg :=
    { z_len := PySem.W.mg_none_of X G z_len
      z_int := PySem.W.mg_none_of X G z_int
      z_str := PySem.W.mg_none_of X G z_str
      z_range := PySem.W.mg_none_of X G z_range
      z_isinstance := PySem.W.mg_none_of X G z_isinstance
      z_list := PySem.W.mg_none_of X G z_list
      z_bool := PySem.W.mg_none_of X G z_bool
      z_ValueError := PySem.W.mg_none_of X G z_ValueError
      C_DescribeError := C_DescribeError
      m_DescribeError := PySem.W.mg_of X G m_DescribeError
      k_DescribeError := k_DescribeError
      e_DescribeError := ⟨e1_DescribeError, e2_DescribeError, e3_DescribeError, e4_DescribeError, e5_DescribeError, e6_DescribeError, e7_DescribeError, e8_DescribeError⟩
      y_DescribeError := y_DescribeError
      x_DescribeError := x_DescribeError
      C_NoSuch := C_NoSuch
      m_NoSuch := PySem.W.mg_of X G m_NoSuch
      k_NoSuch := k_NoSuch
      e_NoSuch := ⟨e1_NoSuch, e2_NoSuch, e3_NoSuch, e4_NoSuch, e5_NoSuch, e6_NoSuch, e7_NoSuch, e8_NoSuch⟩
      y_NoSuch := y_NoSuch
      n_NoSuch_number := n_NoSuch_number
      a_NoSuch_init := a_NoSuch_init
      fd_NoSuch_init := _
      cc_NoSuch_init := cc_NoSuch_init
      co_NoSuch_init := co_NoSuch_init
      S_NoSuch := { T := ⟨⟨_, _, _, _, _, _, _, _, _, _, _, _, _, _, _, x_NoSuch, r_NoSuch⟩, s_NoSuch, e3_NoSuch, y_NoSuch, k_NoSuch⟩, fn := ⟨_, _, _, dc_NoSuch_init, pm_NoSuch_init, ct_NoSuch_init, rfl, l_NoSuch_init⟩, cd := c_NoSuch_init, cell := ⟨_, _, _, _, rfl, g_NoSuch_init⟩, code := ⟨_, _, _, _, _, _, o_NoSuch_init, v_NoSuch_init, w_NoSuch_init⟩, sup := u1_NoSuch_init, own := u2_NoSuch_init, ve := u3_NoSuch_init, opq := u4_NoSuch_init, mgS := PySem.W.mg_none_of X G u5_NoSuch_init, top := u6_NoSuch_init, ini := u7_NoSuch_init }
      b_NoSuch_init := .all fun us hl => match us, hl with | [_, _], _ => rfl
      i_NoSuch := a1_NoSuch_init
      t_NoSuch := t1_NoSuch_init
      f_NoSuch := ⟨e1_NoSuch, e2_NoSuch, e3_NoSuch, e4_NoSuch⟩
      C_NothingLeft := C_NothingLeft
      m_NothingLeft := PySem.W.mg_of X G m_NothingLeft
      k_NothingLeft := k_NothingLeft
      e_NothingLeft := ⟨e1_NothingLeft, e2_NothingLeft, e3_NothingLeft, e4_NothingLeft, e5_NothingLeft, e6_NothingLeft, e7_NothingLeft, e8_NothingLeft⟩
      y_NothingLeft := y_NothingLeft
      x_NothingLeft := x_NothingLeft
      C_History := C_History
      m_History := PySem.W.mg_of X G m_History
      c_History := ⟨pg_History, hd_History, po_History, sa_History⟩
      n_History_state := n_History_state
      n_History_past := n_History_past
      n_History_future := n_History_future
      k_History_init := k_History_init
      a_History_init := a_History_init
      fd_History_init := _
      F_History_init := fun_mk (st := s_History_init) l_History_init c_History_init k_History_init
      b_History_init := (fun_mk (st := s_History_init) l_History_init c_History_init k_History_init).binds (ps := ["self", "state"]) fun _ _ _ _ _ _ us hl => match us, hl with | [_, _], _ => rfl
      mm_History_init := ⟨a1_History_init, i_History_init, k_History_init⟩
      M_History := ⟨mk_History, a1_History_init, i_History_init, kc_History⟩
      k_History_move := k_History_move
      a_History_move := a_History_move
      fd_History_move := _
      F_History_move := fun_mk (st := s_History_move) l_History_move c_History_move k_History_move
      b_History_move := (fun_mk (st := s_History_move) l_History_move c_History_move k_History_move).binds (ps := ["self", "state"]) fun _ _ _ _ _ _ us hl => match us, hl with | [_, _], _ => rfl
      mm_History_move := ⟨a1_History_move, i_History_move, k_History_move⟩
      k_History_undo := k_History_undo
      a_History_undo := a_History_undo
      fd_History_undo := _
      F_History_undo := fun_mk (st := s_History_undo) l_History_undo c_History_undo k_History_undo
      b_History_undo := (fun_mk (st := s_History_undo) l_History_undo c_History_undo k_History_undo).binds (ps := ["self"]) fun _ _ _ _ _ _ us hl => match us, hl with | [_], _ => rfl
      mm_History_undo := ⟨a1_History_undo, i_History_undo, k_History_undo⟩
      k_History_redo := k_History_redo
      a_History_redo := a_History_redo
      fd_History_redo := _
      F_History_redo := fun_mk (st := s_History_redo) l_History_redo c_History_redo k_History_redo
      b_History_redo := (fun_mk (st := s_History_redo) l_History_redo c_History_redo k_History_redo).binds (ps := ["self"]) fun _ _ _ _ _ _ us hl => match us, hl with | [_], _ => rfl
      mm_History_redo := ⟨a1_History_redo, i_History_redo, k_History_redo⟩
      k_History_versions := k_History_versions
      a_History_versions := a_History_versions
      fd_History_versions := _
      F_History_versions := fun_mk (st := s_History_versions) l_History_versions c_History_versions k_History_versions
      b_History_versions := (fun_mk (st := s_History_versions) l_History_versions c_History_versions k_History_versions).binds (ps := ["self"]) fun _ _ _ _ _ _ us hl => match us, hl with | [_], _ => rfl
      mm_History_versions := ⟨a1_History_versions, i_History_versions, k_History_versions⟩
      k_History_earlier := k_History_earlier
      a_History_earlier := a_History_earlier
      fd_History_earlier := _
      F_History_earlier := fun_mk (st := s_History_earlier) l_History_earlier c_History_earlier k_History_earlier
      b_History_earlier := (fun_mk (st := s_History_earlier) l_History_earlier c_History_earlier k_History_earlier).binds (ps := ["self", "steps"]) fun _ _ _ _ _ _ us hl => match us, hl with | [_, _], _ => rfl
      mm_History_earlier := ⟨a1_History_earlier, i_History_earlier, k_History_earlier⟩
      k_law_stream := k_law_stream
      a_law_stream := a_law_stream
      fd_law_stream := _
      F_law_stream := fun_mk (st := s_law_stream) l_law_stream c_law_stream k_law_stream
      b_law_stream := (fun_mk (st := s_law_stream) l_law_stream c_law_stream k_law_stream).binds (ps := ["script"]) fun _ _ _ _ _ _ us hl => match us, hl with | [_], _ => rfl
      m_law_stream := PySem.W.mg_of X G a1_law_stream
      k_law_draw := k_law_draw
      a_law_draw := a_law_draw
      fd_law_draw := _
      F_law_draw := fun_mk (st := s_law_draw) l_law_draw c_law_draw k_law_draw
      b_law_draw := (fun_mk (st := s_law_draw) l_law_draw c_law_draw k_law_draw).binds (ps := ["s", "many"]) fun _ _ _ _ _ _ us hl => match us, hl with | [_, _], _ => rfl
      m_law_draw := PySem.W.mg_of X G a1_law_draw
      k_law_pick := k_law_pick
      a_law_pick := a_law_pick
      fd_law_pick := _
      F_law_pick := fun_mk (st := s_law_pick) l_law_pick c_law_pick k_law_pick
      b_law_pick := (fun_mk (st := s_law_pick) l_law_pick c_law_pick k_law_pick).binds (ps := ["s", "row"]) fun _ _ _ _ _ _ us hl => match us, hl with | [_, _], _ => rfl
      m_law_pick := PySem.W.mg_of X G a1_law_pick
      k_law_int := k_law_int
      a_law_int := a_law_int
      fd_law_int := _
      F_law_int := fun_mk (st := s_law_int) l_law_int c_law_int k_law_int
      b_law_int := (fun_mk (st := s_law_int) l_law_int c_law_int k_law_int).binds (ps := ["x"]) fun _ _ _ _ _ _ us hl => match us, hl with | [_], _ => rfl
      m_law_int := PySem.W.mg_of X G a1_law_int
      k_law_state := k_law_state
      a_law_state := a_law_state
      fd_law_state := _
      F_law_state := fun_mk (st := s_law_state) l_law_state c_law_state k_law_state
      b_law_state := (fun_mk (st := s_law_state) l_law_state c_law_state k_law_state).binds (ps := ["s"]) fun _ _ _ _ _ _ us hl => match us, hl with | [_], _ => rfl
      m_law_state := PySem.W.mg_of X G a1_law_state
      k_law_moved := k_law_moved
      a_law_moved := a_law_moved
      fd_law_moved := _
      F_law_moved := fun_mk (st := s_law_moved) l_law_moved c_law_moved k_law_moved
      b_law_moved := (fun_mk (st := s_law_moved) l_law_moved c_law_moved k_law_moved).binds (ps := ["history", "way", "state"]) fun _ _ _ _ _ _ us hl => match us, hl with | [_, _, _], _ => rfl
      m_law_moved := PySem.W.mg_of X G a1_law_moved
      k_law_earlier := k_law_earlier
      a_law_earlier := a_law_earlier
      fd_law_earlier := _
      F_law_earlier := fun_mk (st := s_law_earlier) l_law_earlier c_law_earlier k_law_earlier
      b_law_earlier := (fun_mk (st := s_law_earlier) l_law_earlier c_law_earlier k_law_earlier).binds (ps := ["history", "steps"]) fun _ _ _ _ _ _ us hl => match us, hl with | [_, _], _ => rfl
      m_law_earlier := PySem.W.mg_of X G a1_law_earlier
      k_law_same := k_law_same
      a_law_same := a_law_same
      fd_law_same := _
      F_law_same := fun_mk (st := s_law_same) l_law_same c_law_same k_law_same
      b_law_same := (fun_mk (st := s_law_same) l_law_same c_law_same k_law_same).binds (ps := ["history", "model"]) fun _ _ _ _ _ _ us hl => match us, hl with | [_, _], _ => rfl
      m_law_same := PySem.W.mg_of X G a1_law_same
      k_law := k_law
      a_law := a_law
      fd_law := _
      F_law := fun_mk (st := s_law) l_law c_law k_law
      b_law := (fun_mk (st := s_law) l_law c_law k_law).binds (ps := ["script"]) fun _ _ _ _ _ _ us hl => match us, hl with | [_], _ => rfl
      m_law := PySem.W.mg_of X G a1_law
      is_NothingLeft_DescribeError := is_NothingLeft_DescribeError
      is_NothingLeft_ValueError := is_NothingLeft_ValueError
      is_NothingLeft_NoSuch := is_NothingLeft_NoSuch
      is_NoSuch_DescribeError := is_NoSuch_DescribeError
      is_NoSuch_NothingLeft := is_NoSuch_NothingLeft
      ex_NothingLeft_NothingLeft := ex_NothingLeft_NothingLeft
      ex_NoSuch_NoSuch := ex_NoSuch_NoSuch }
  exact ⟨PySem.W.fnOf "law" "law" (defArgs s_law) (defBody s_law) (defScope s_law) .none kV_law dc_law pm_law an_law cd_law ct_law, fun s v => .of_eq rfl, fun base _ _ => ok_law T⟩
theorem walk {l : PySem.W.OpenLaw} {q : Program} {loose : List Str} {XP : (Str → Option Value) → Heap → Prop} {YP : World → Heap → Prop} {d : DefRec} {K : Params → PySem.W.Frag} (hn : l.most = some 63) (hdf : d.params.defaults = [])
    (hY : ∀ (w : World) (h : Heap), YP w h → (K w.params).In h)
    (F : ∀ (w : World) (mg : Str → Option Value) (fa : Addr) (h : Heap), (K w.params).In h → h.Ns mainGlobals mg → mg d.name = some (.ref fa) →
      ∃ fd : FuncData, (∀ (s : Shared) (u : Value), BindsTo s fd ⟨[u], []⟩ [("script", u)]) ∧ ∀ base : Heap, (K w.params).In base → base.Ns mainGlobals mg → FnOk l.prog w (K w.params) mg base CX0 9 fa fd ["script"] (FS (K w.params) pr_law)) :
    PySem.W.WalkO q loose XP YP l.row.toRowW d [] (fun f vs => PySem.call f vs) :=
  L2.walk_of (n := 63) (k := 9) (x := "script") (CX := fun _ => CX0) (sp := fun w => FS (K w.params) pr_law) hn (by decide) hdf ⟨rfl, by decide, by decide⟩ hY F (fun _ _ a ns hl _ hS => DL.law_in hl hS fun _ => rfl) fun _ _ _ _ _ z => z
end P93
open PySem PySem.W PyProof.Rows
set_option maxRecDepth 100000 in
set_option maxHeartbeats 0 in
theorem PySem.Challenge.cw_describedonce_k93_history_holds : PySem.Challenge.rw_describedonce_k93_history.Holds := by
  w_on; o_law; k_head; (case hw => w_witness2)
  k_fill
  refine P93.walk (l := PySem.Challenge.rw_describedonce_k93_history) rfl rfl (fun w h Y => PySem.W.kIn_of Y) ?F
  case F =>
    intro w mg fa h KX G hmg
    refine' P93.all_mk rfl KX G hmg ?z_len ?z_int ?z_str ?z_range ?z_isinstance ?z_list ?z_bool ?z_ValueError ?m_DescribeError ?k_DescribeError ?e1_DescribeError ?e2_DescribeError ?e3_DescribeError ?e4_DescribeError ?e5_DescribeError ?e6_DescribeError ?e7_DescribeError ?e8_DescribeError ?y_DescribeError ?x_DescribeError ?m_NoSuch ?k_NoSuch ?e1_NoSuch ?e2_NoSuch ?e3_NoSuch ?e4_NoSuch ?e5_NoSuch ?e6_NoSuch ?e7_NoSuch ?e8_NoSuch ?y_NoSuch ?n_NoSuch_number ?x_NoSuch ?r_NoSuch ?s_NoSuch ?a1_NoSuch_init ?t1_NoSuch_init ?l_NoSuch_init ?c_NoSuch_init ?g_NoSuch_init ?o_NoSuch_init ?v_NoSuch_init ?w_NoSuch_init ?u1_NoSuch_init ?u2_NoSuch_init ?u3_NoSuch_init ?u4_NoSuch_init ?u5_NoSuch_init ?u6_NoSuch_init ?u7_NoSuch_init ?m_NothingLeft ?k_NothingLeft ?e1_NothingLeft ?e2_NothingLeft ?e3_NothingLeft ?e4_NothingLeft ?e5_NothingLeft ?e6_NothingLeft ?e7_NothingLeft ?e8_NothingLeft ?y_NothingLeft ?x_NothingLeft ?m_History ?pg_History ?hd_History ?po_History ?sa_History ?n_History_state ?n_History_past ?n_History_future ?a1_History_init ?i_History_init ?l_History_init ?c_History_init ?k_History_init ?mk_History ?kc_History ?a1_History_move ?i_History_move ?l_History_move ?c_History_move ?k_History_move ?a1_History_undo ?i_History_undo ?l_History_undo ?c_History_undo ?k_History_undo ?a1_History_redo ?i_History_redo ?l_History_redo ?c_History_redo ?k_History_redo ?a1_History_versions ?i_History_versions ?l_History_versions ?c_History_versions ?k_History_versions ?a1_History_earlier ?i_History_earlier ?l_History_earlier ?c_History_earlier ?k_History_earlier ?a1_law_stream ?l_law_stream ?c_law_stream ?k_law_stream ?a1_law_draw ?l_law_draw ?c_law_draw ?k_law_draw ?a1_law_pick ?l_law_pick ?c_law_pick ?k_law_pick ?a1_law_int ?l_law_int ?c_law_int ?k_law_int ?a1_law_state ?l_law_state ?c_law_state ?k_law_state ?a1_law_moved ?l_law_moved ?c_law_moved ?k_law_moved ?a1_law_earlier ?l_law_earlier ?c_law_earlier ?k_law_earlier ?a1_law_same ?l_law_same ?c_law_same ?k_law_same ?a1_law ?l_law ?c_law ?k_law ?is_NothingLeft_DescribeError ?is_NothingLeft_ValueError ?is_NothingLeft_NoSuch ?is_NoSuch_DescribeError ?is_NoSuch_NothingLeft ?ex_NothingLeft_NothingLeft ?ex_NoSuch_NoSuch
    (case z_len => k_is)
    (case z_int => k_is)
    (case z_str => k_is)
    (case z_range => k_is)
    (case z_isinstance => k_is)
    (case z_list => k_is)
    (case z_bool => k_is)
    (case z_ValueError => k_is)
    (case m_DescribeError => k_is)
    (case k_DescribeError => k_is)
    (case e1_DescribeError => k_is)
    (case e2_DescribeError => k_is)
    (case e3_DescribeError => k_is)
    (case e4_DescribeError => k_is)
    (case e5_DescribeError => k_is)
    (case e6_DescribeError => k_is)
    (case e7_DescribeError => k_is)
    (case e8_DescribeError => k_is)
    (case y_DescribeError => k_is)
    (case x_DescribeError => k_exc)
    (case m_NoSuch => k_is)
    (case k_NoSuch => k_is)
    (case e1_NoSuch => k_is)
    (case e2_NoSuch => k_is)
    (case e3_NoSuch => k_is)
    (case e4_NoSuch => k_is)
    (case e5_NoSuch => k_is)
    (case e6_NoSuch => k_is)
    (case e7_NoSuch => k_is)
    (case e8_NoSuch => k_is)
    (case y_NoSuch => k_is)
    (case n_NoSuch_number => k_is)
    (case x_NoSuch => k_is)
    (case r_NoSuch => decide +kernel)
    (case s_NoSuch => k_is)
    (case a1_NoSuch_init => k_is)
    (case t1_NoSuch_init => k_is)
    (case l_NoSuch_init => k_is)
    (case c_NoSuch_init => k_is)
    (case g_NoSuch_init => k_is)
    (case o_NoSuch_init => k_is)
    (case v_NoSuch_init => rfl)
    (case w_NoSuch_init => decide +kernel)
    (case u1_NoSuch_init => ks_is)
    (case u2_NoSuch_init => k_is)
    (case u3_NoSuch_init => k_is)
    (case u4_NoSuch_init => k_is)
    (case u5_NoSuch_init => k_is)
    (case u6_NoSuch_init => decide +kernel)
    (case u7_NoSuch_init => kx_is)
    (case m_NothingLeft => k_is)
    (case k_NothingLeft => k_is)
    (case e1_NothingLeft => k_is)
    (case e2_NothingLeft => k_is)
    (case e3_NothingLeft => k_is)
    (case e4_NothingLeft => k_is)
    (case e5_NothingLeft => k_is)
    (case e6_NothingLeft => k_is)
    (case e7_NothingLeft => k_is)
    (case e8_NothingLeft => k_is)
    (case y_NothingLeft => k_is)
    (case x_NothingLeft => k_exc)
    (case m_History => k_is)
    (case pg_History => k_is)
    (case hd_History => k_is)
    (case po_History => k_is)
    (case sa_History => k_is)
    (case n_History_state => k_is)
    (case n_History_past => k_is)
    (case n_History_future => k_is)
    (case a1_History_init => k_is)
    (case i_History_init => k_is)
    (case l_History_init => k_is)
    (case c_History_init => k_is)
    (case k_History_init => k_is)
    (case mk_History => k_is)
    (case kc_History => k_is)
    (case a1_History_move => k_is)
    (case i_History_move => k_is)
    (case l_History_move => k_is)
    (case c_History_move => k_is)
    (case k_History_move => k_is)
    (case a1_History_undo => k_is)
    (case i_History_undo => k_is)
    (case l_History_undo => k_is)
    (case c_History_undo => k_is)
    (case k_History_undo => k_is)
    (case a1_History_redo => k_is)
    (case i_History_redo => k_is)
    (case l_History_redo => k_is)
    (case c_History_redo => k_is)
    (case k_History_redo => k_is)
    (case a1_History_versions => k_is)
    (case i_History_versions => k_is)
    (case l_History_versions => k_is)
    (case c_History_versions => k_is)
    (case k_History_versions => k_is)
    (case a1_History_earlier => k_is)
    (case i_History_earlier => k_is)
    (case l_History_earlier => k_is)
    (case c_History_earlier => k_is)
    (case k_History_earlier => k_is)
    (case a1_law_stream => k_is)
    (case l_law_stream => k_is)
    (case c_law_stream => k_is)
    (case k_law_stream => k_is)
    (case a1_law_draw => k_is)
    (case l_law_draw => k_is)
    (case c_law_draw => k_is)
    (case k_law_draw => k_is)
    (case a1_law_pick => k_is)
    (case l_law_pick => k_is)
    (case c_law_pick => k_is)
    (case k_law_pick => k_is)
    (case a1_law_int => k_is)
    (case l_law_int => k_is)
    (case c_law_int => k_is)
    (case k_law_int => k_is)
    (case a1_law_state => k_is)
    (case l_law_state => k_is)
    (case c_law_state => k_is)
    (case k_law_state => k_is)
    (case a1_law_moved => k_is)
    (case l_law_moved => k_is)
    (case c_law_moved => k_is)
    (case k_law_moved => k_is)
    (case a1_law_earlier => k_is)
    (case l_law_earlier => k_is)
    (case c_law_earlier => k_is)
    (case k_law_earlier => k_is)
    (case a1_law_same => k_is)
    (case l_law_same => k_is)
    (case c_law_same => k_is)
    (case k_law_same => k_is)
    (case a1_law => k_is)
    (case l_law => k_is)
    (case c_law => k_is)
    (case k_law => k_is)
    (case is_NothingLeft_DescribeError => kit_is)
    (case is_NothingLeft_ValueError => kit_is)
    (case is_NothingLeft_NoSuch => kit_is)
    (case is_NoSuch_DescribeError => kit_is)
    (case is_NoSuch_NothingLeft => kit_is)
    (case ex_NothingLeft_NothingLeft => kts_exm)
    (case ex_NoSuch_NoSuch => kts_exm)
