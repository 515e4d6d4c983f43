import PyProof.Rows.All
import Wide.All
import OpenK.AllK
import Wide.FinOn
import HandS.ForMost
import HandS.Exc
import HandS.Lambda
import HandS.Deep
import HandS.TupAny
import HandS.TupMul
import HandS.Wide
import HandS.WideBits
import HandS.IsInst
import HandS.Gcd
import HandS.Flow
import HandS.Style
import HandS.Codes
import HandS.FStr
import HandS.RaiseMore
import PyProof.ReprRoads
import HandS.Zip
import HandS.Comp
import HandS.Conv
import HandS.Iter
import KE.GoesNew
import KE.GoesMore
import HandS.Words
import HandS.WordsExc
import HandS.EndTab
import HandS.New
import HandS.Remove
import HandS.Rev
import KE.KeyNested
import HandS.TupSets
import PySem.Challenge.RW_roofshadows_k61_whole_masts_and_who_is_n
set_option Elab.async false
set_option linter.all false
set_option maxRecDepth 100000
set_option maxHeartbeats 4000000
/-! Mp: values by data, mirrors as functions, what a mirror says of the hand layer's readings. -/
namespace Mp
open PySem PySem.Spec L2
open PyProof.Rows hiding St

/-- a value by data: tuples and frozen lists by what is in them; an identity list by its number; a def, a class by its address; a lambda by its frame and its number -/
inductive D where
  | non | bl (b : Bool) | int (i : Int) | str (x : Str) | tup (xs : List D) | lst (xs : List D) | scr (xs : List D) | dct | ref (n : Nat) | obj (a : Addr) | clo (L : Addr) (n : Nat)
/-- a slot: not set, a value, a list that only this slot knows, the exception that a suite holds -/
inductive Sl where
  | un | val (d : D) | own (xs : List D) | exc (c : Value) (fs : List (Str × D))
structure S where
  env : List Sl
  ms : List (List D)
inductive R (α : Type) where
  | ok (a : α) (s : S) | err (c : Value) (fs : List (Str × D)) (s : S) | stuck
abbrev M (α : Type) := S → R α
def ret {α : Type} (a : α) : M α := fun s => .ok a s
def bnd {α β : Type} (m : M α) (k : α → M β) : M β := fun s => match m s with
  | .ok a s' => k a s'
  | .err c fs s' => .err c fs s'
  | .stuck => .stuck
def lift {α : Type} (o : Option α) : M α := fun s => match o with
  | some a => .ok a s
  | none => .stuck
def stk {α : Type} : M α := fun _ => .stuck
/-- a lambda of the text: the def around, its parameters, body, scope -/
structure LamI where
  qual : Str
  sc : Scope
  params : Arguments
  body : Expr
  scope : Scope
/-- the lambda's object, made in the frame whose names stand at L -/
def LamI.at (l : LamI) (L f : Addr) : HO := .ext fun h => ∃ (pm ctv : Value) (c' : Addr), h.get? f = some (PySem.W.kla_obj "<lambda>" (l.qual ++ "<lambda>") l.params l.body l.scope (cloFrom (cellsFrom (L + 1) l.sc.names []) l.scope.names []) pm c' ctv)

/-- what is fixed: the written part, the lambdas of the text -/
structure Kx where
  K : PySem.W.Frag
  lt : Nat → LamI
mutual
inductive RV (K : Kx) (F : Hp) (φ : List Addr) : D → V → Prop
  | non : RV K F φ .non .non
  | bl (b : Bool) : RV K F φ (.bl b) (.bl b)
  | int (i : Int) : RV K F φ (.int i) (.int i)
  | str (x : Str) : RV K F φ (.str x) (.str x)
  | tup {a : Addr} {vs : List V} {ds : List D} : SqT K.K F a vs → RVs K F φ ds vs → RV K F φ (.tup ds) (.ref a)
  | lst {a : Addr} {vs : List V} {ds : List D} : F a = some (.lst vs) → RVs K F φ ds vs → RV K F φ (.lst ds) (.ref a)
  | scr {a : Addr} {vs : List V} {ds : List D} : SqL K.K F a vs → RVs K F φ ds vs → RV K F φ (.scr ds) (.ref a)
  | dct {a : Addr} : F a = some (.dK []) → RV K F φ .dct (.ref a)
  | ref {n : Nat} {a : Addr} : φ[n]? = some a → RV K F φ (.ref n) (.ref a)
  | obj {a : Addr} : RV K F φ (.obj a) (.ref a)
  | clo {L f : Addr} {n : Nat} : F f = some ((K.lt n).at L f) → RV K F φ (.clo L n) (.ref f)
inductive RVs (K : Kx) (F : Hp) (φ : List Addr) : List D → List V → Prop
  | nil : RVs K F φ [] []
  | cons {d : D} {v : V} {ds : List D} {vs : List V} : RV K F φ d v → RVs K F φ ds vs → RVs K F φ (d :: ds) (v :: vs)
end
structure G where
  F : Hp
  φ : List Addr
  ω : Nat → Option Addr

theorem SqT.up {K : PySem.W.Frag} {F F' : Hp} {a : Addr} {xs : List V} (h : ∀ a o, F a = some o → F' a = some o) (q : SqT K F a xs) : SqT K F' a xs := by
  rcases q with (q | ⟨o, q⟩) | q
  · exact .inl (.inl (h _ _ q))
  · exact .inl (.inr ⟨o, h _ _ q⟩)
  · exact .inr q
theorem SqL.up {K : PySem.W.Frag} {F F' : Hp} {a : Addr} {xs : List V} (h : ∀ a o, F a = some o → F' a = some o) (q : SqL K F a xs) : SqL K F' a xs := by
  rcases q with (q | ⟨o, q⟩) | q
  · exact .inl (.inl (h _ _ q))
  · exact .inl (.inr ⟨o, h _ _ q⟩)
  · exact .inr q
section
variable {K : Kx} {F F' : Hp} {φ φ' : List Addr}
mutual
theorem RV.up (h : ∀ a o, F a = some o → F' a = some o) (hp : ∃ m, φ' = φ ++ m) : ∀ (d : D) (v : V), RV K F φ d v → RV K F' φ' d v
  | .non, _, .non => .non
  | .bl _, _, .bl b => .bl b
  | .int _, _, .int i => .int i
  | .str _, _, .str x => .str x
  | .tup ds, _, .tup s r => .tup (SqT.up h s) (RVs.up h hp ds _ r)
  | .lst ds, _, .lst s r => .lst (h _ _ s) (RVs.up h hp ds _ r)
  | .scr ds, _, .scr s r => .scr (SqL.up h s) (RVs.up h hp ds _ r)
  | .dct, _, .dct e => .dct (h _ _ e)
  | .ref n, _, .ref e => .ref (by
      obtain ⟨m, e2⟩ := hp
      rw [e2, List.getElem?_append_left (List.getElem?_eq_some_iff.mp e).1]
      exact e)
  | .obj _, _, .obj => .obj
  | .clo _ _, _, .clo e => .clo (h _ _ e)
theorem RVs.up (h : ∀ a o, F a = some o → F' a = some o) (hp : ∃ m, φ' = φ ++ m) : ∀ (ds : List D) (vs : List V), RVs K F φ ds vs → RVs K F' φ' ds vs
  | [], _, .nil => .nil
  | d :: ds, _, .cons r q => .cons (RV.up h hp d _ r) (RVs.up h hp ds _ q)
end
theorem RVs.length : ∀ {ds : List D} {vs : List V}, RVs K F φ ds vs → ds.length = vs.length
  | _, _, .nil => rfl
  | _, _, .cons _ q => congrArg (· + 1) (RVs.length q)
theorem RVs.get : ∀ {ds : List D} {vs : List V} {i : Nat} {v : V}, RVs K F φ ds vs → vs[i]? = some v → ∃ d, ds[i]? = some d ∧ RV K F φ d v
  | _, _, _, _, .nil, e => by simp at e
  | _, _, 0, _, .cons r _, e => by
    simp at e
    subst e
    exact ⟨_, rfl, r⟩
  | _, _, i + 1, v, .cons _ q, e => by
    obtain ⟨d, h1, h2⟩ := RVs.get (i := i) (v := v) q (by simpa using e)
    exact ⟨d, by simpa using h1, h2⟩
theorem RVs.getD : ∀ {ds : List D} {vs : List V} {i : Nat} {d : D}, RVs K F φ ds vs → ds[i]? = some d → ∃ v, vs[i]? = some v ∧ RV K F φ d v
  | _, _, _, _, .nil, e => by simp at e
  | _, _, 0, _, .cons r _, e => by
    simp at e
    subst e
    exact ⟨_, rfl, r⟩
  | _, _, i + 1, v, .cons _ q, e => by
    obtain ⟨d, h1, h2⟩ := RVs.getD (i := i) (d := v) q (by simpa using e)
    exact ⟨d, by simpa using h1, h2⟩
theorem RVs.append : ∀ {ds es : List D} {vs us : List V}, RVs K F φ ds vs → RVs K F φ es us → RVs K F φ (ds ++ es) (vs ++ us)
  | _, _, _, _, .nil, q => q
  | _, _, _, _, .cons r t, q => .cons r (RVs.append t q)
theorem RVs.take : ∀ {ds : List D} {vs : List V} (n : Nat), RVs K F φ ds vs → RVs K F φ (ds.take n) (vs.take n)
  | _, _, 0, _ => .nil
  | _, _, _ + 1, .nil => .nil
  | _, _, n + 1, .cons r t => .cons r (RVs.take n t)
theorem RVs.drop : ∀ {ds : List D} {vs : List V} (n : Nat), RVs K F φ ds vs → RVs K F φ (ds.drop n) (vs.drop n)
  | _, _, 0, r => r
  | _, _, _ + 1, .nil => .nil
  | _, _, n + 1, .cons _ t => RVs.drop n t
theorem RVs.set {d : D} {v : V} (r : RV K F φ d v) : ∀ {ds : List D} {vs : List V} (i : Nat), RVs K F φ ds vs → RVs K F φ (ds.set i d) (vs.set i v)
  | _, _, _, .nil => .nil
  | _, _, 0, .cons _ t => .cons r t
  | _, _, i + 1, .cons q t => .cons q (RVs.set r i t)
theorem RVs.reverse {ds : List D} {vs : List V} (h : RVs K F φ ds vs) : RVs K F φ ds.reverse vs.reverse := by
  induction ds generalizing vs with
  | nil =>
    cases h
    exact .nil
  | cons d ds ih =>
    cases h with
    | cons r t =>
      rw [List.reverse_cons, List.reverse_cons]
      exact (ih t).append (.cons r .nil)
end

/-- what a piece of code leaves as it was: an expression all but the identity lists -/
structure Ext (g : G) (H : Hp) (g' : G) (H' : Hp) : Prop where
  fr : ∀ a o, g.F a = some o → g'.F a = some o
  ph : ∃ m, g'.φ = g.φ ++ m
  new : ∀ a, a ∈ g'.φ → a ∈ g.φ ∨ H a = none
  fnew : ∀ a o, g'.F a = some o → g.F a = some o ∨ H a = none ∨ ∃ i, g.ω i = some a
  nom : ∀ i a, g'.ω i = some a → (∃ j, g.ω j = some a) ∨ H a = none
  there : ∀ b o, H b = some o → ∃ o', H' b = some o'
  keep : ∀ b o, H b = some o → b ∉ g.φ → (∀ ps, o ≠ .tbl ps) → H' b = some o
/-- a statement may change the slots' own lists besides -/
structure ExtS (g : G) (H : Hp) (g' : G) (H' : Hp) : Prop where
  fr : ∀ a o, g.F a = some o → g'.F a = some o
  ph : ∃ m, g'.φ = g.φ ++ m
  new : ∀ a, a ∈ g'.φ → a ∈ g.φ ∨ H a = none
  fnew : ∀ a o, g'.F a = some o → g.F a = some o ∨ H a = none ∨ ∃ i, g.ω i = some a
  nom : ∀ i a, g'.ω i = some a → (∃ j, g.ω j = some a) ∨ H a = none
  there : ∀ b o, H b = some o → ∃ o', H' b = some o'
  keep : ∀ b o, H b = some o → b ∉ g.φ → (∀ i, g.ω i ≠ some b) → (∀ ps, o ≠ .tbl ps) → H' b = some o
section
variable {g g1 g2 : G} {H H1 H2 : Hp}
theorem Ext.s (e : Ext g H g1 H1) : ExtS g H g1 H1 := ⟨e.fr, e.ph, e.new, e.fnew, e.nom, e.there, fun b o h n _ t => e.keep b o h n t⟩
theorem Ext.refl (g : G) (H : Hp) : Ext g H g H := ⟨fun _ _ h => h, ⟨[], by simp⟩, fun _ h => .inl h, fun _ _ h => .inl h, fun i a h => .inl ⟨i, h⟩, fun _ o h => ⟨o, h⟩, fun _ _ h _ _ => h⟩
theorem ExtS.refl (g : G) (H : Hp) : ExtS g H g H := (Ext.refl g H).s
theorem Ext.gone (e : Ext g H g1 H1) {a : Addr} (h : H1 a = none) : H a = none := by
  cases q : H a with
  | none => rfl
  | some o =>
    obtain ⟨o', q'⟩ := e.there a o q
    rw [q'] at h
    cases h
theorem ExtS.gone (e : ExtS g H g1 H1) {a : Addr} (h : H1 a = none) : H a = none := by
  cases q : H a with
  | none => rfl
  | some o =>
    obtain ⟨o', q'⟩ := e.there a o q
    rw [q'] at h
    cases h
theorem Ext.trans (a : Ext g H g1 H1) (b : Ext g1 H1 g2 H2) : Ext g H g2 H2 where
  fr := fun x o h => b.fr x o (a.fr x o h)
  ph := by
    obtain ⟨m, e⟩ := a.ph
    obtain ⟨m2, e2⟩ := b.ph
    exact ⟨m ++ m2, by rw [e2, e, List.append_assoc]⟩
  new := fun x h => by
    rcases b.new x h with h | h
    · exact a.new x h
    · exact .inr (a.gone h)
  fnew := fun x o h => by
    rcases b.fnew x o h with h | h | ⟨i, h⟩
    · exact a.fnew x o h
    · exact .inr (.inl (a.gone h))
    · rcases a.nom i x h with h | h
      · exact .inr (.inr h)
      · exact .inr (.inl h)
  nom := fun i x h => by
    rcases b.nom i x h with ⟨j, h⟩ | h
    · exact a.nom j x h
    · exact .inr (a.gone h)
  there := fun x o h => by
    obtain ⟨o', h'⟩ := a.there x o h
    exact b.there x o' h'
  keep := fun x o h n t => by
    have h1 := a.keep x o h n t
    refine b.keep x o h1 (fun hm => ?_) t
    rcases a.new x hm with z | z
    · exact n z
    · rw [z] at h; cases h
theorem ExtS.trans (a : ExtS g H g1 H1) (b : ExtS g1 H1 g2 H2) : ExtS g H g2 H2 where
  fr := fun x o h => b.fr x o (a.fr x o h)
  ph := by
    obtain ⟨m, e⟩ := a.ph
    obtain ⟨m2, e2⟩ := b.ph
    exact ⟨m ++ m2, by rw [e2, e, List.append_assoc]⟩
  new := fun x h => by
    rcases b.new x h with h | h
    · exact a.new x h
    · exact .inr (a.gone h)
  fnew := fun x o h => by
    rcases b.fnew x o h with h | h | ⟨i, h⟩
    · exact a.fnew x o h
    · exact .inr (.inl (a.gone h))
    · rcases a.nom i x h with h | h
      · exact .inr (.inr h)
      · exact .inr (.inl h)
  nom := fun i x h => by
    rcases b.nom i x h with ⟨j, h⟩ | h
    · exact a.nom j x h
    · exact .inr (a.gone h)
  there := fun x o h => by
    obtain ⟨o', h'⟩ := a.there x o h
    exact b.there x o' h'
  keep := fun x o h n w t => by
    have h1 := a.keep x o h n w t
    refine b.keep x o h1 (fun hm => ?_) (fun i hw => ?_) t
    · rcases a.new x hm with z | z
      · exact n z
      · rw [z] at h; cases h
    · rcases a.nom i x hw with ⟨j, z⟩ | z
      · exact w j z
      · rw [z] at h; cases h
theorem Ext.rv {K : Kx} {d : D} {v : V} (e : Ext g H g1 H1) (r : RV K g.F g.φ d v) : RV K g1.F g1.φ d v := RV.up e.fr e.ph d v r
theorem Ext.rvs {K : Kx} {d : List D} {v : List V} (e : Ext g H g1 H1) (r : RVs K g.F g.φ d v) : RVs K g1.F g1.φ d v := RVs.up e.fr e.ph d v r
theorem ExtS.rv {K : Kx} {d : D} {v : V} (e : ExtS g H g1 H1) (r : RV K g.F g.φ d v) : RV K g1.F g1.φ d v := RV.up e.fr e.ph d v r
theorem ExtS.rvs {K : Kx} {d : List D} {v : List V} (e : ExtS g H g1 H1) (r : RVs K g.F g.φ d v) : RVs K g1.F g1.φ d v := RVs.up e.fr e.ph d v r
end
/-- an exception's own dict -/
def REx (K : Kx) (g : G) (H : Hp) (fs : List (Str × D)) : Option Addr → Prop
  | none => fs = []
  | some d => ∃ vs : List V, H d = some (.xd ((fs.map (·.1)).zip vs)) ∧ RVs K g.F g.φ (fs.map (·.2)) vs ∧ d ∉ g.φ ∧ (∀ i, g.ω i ≠ some d)
/-- the identity lists -/
structure RM (K : Kx) (g : G) (H : Hp) (ms : List (List D)) : Prop where
  sub : ∀ a o, g.F a = some o → H a = some o
  mlen : ms.length = g.φ.length
  mem : ∀ (n : Nat) (a : Addr) (ds : List D), g.φ[n]? = some a → ms[n]? = some ds → ∃ vs, H a = some (.lst vs) ∧ RVs K g.F g.φ ds vs ∧ g.F a = none
  nod : g.φ.Nodup
/-- what stays true behind all code: of the frames around -/
structure Bg (K : Kx) where
  P : G → Hp → List (List D) → Prop
  up : ∀ {g H ms g' H' ms'}, P g H ms → ExtS g H g' H' → RM K g' H' ms' → P g' H' ms'
/-- the setting of a piece of code: code tables, the frames around, what is wanted of an exception, the exception that the suite holds -/
structure Pm (K : Kx) where
  T : List (Addr × Str)
  B : Bg K
  W : WX
  xc : Option (Addr × Value × Option Addr)
/-- the frame's slots -/
structure RF (K : Kx) (xc : Option (Addr × Value × Option Addr)) (g : G) (σ : L2.St) (H : Hp) (en : List Sl) : Prop where
  len : en.length = σ.length
  env : ∀ (i : Nat) (d : D), en[i]? = some (Sl.val d) → ∃ v, σ[i]? = some (some v) ∧ RV K g.F g.φ d v
  own : ∀ (i : Nat) (ds : List D), en[i]? = some (Sl.own ds) → ∃ a vs, g.ω i = some a ∧ σ[i]? = some (some (.ref a)) ∧ H a = some (.lst vs) ∧ RVs K g.F g.φ ds vs ∧ g.F a = none ∧ a ∉ g.φ
  exc : ∀ (i : Nat) (c : Value) (fs : List (Str × D)), en[i]? = some (Sl.exc c fs) → ∃ a dx, xc = some (a, c, dx) ∧ σ[i]? = some (some (.ref a)) ∧ REx K g H fs dx
  is : ∀ i a, g.ω i = some a → ∃ ds, en[i]? = some (Sl.own ds)
  inj : ∀ i j a, g.ω i = some a → g.ω j = some a → i = j
structure RS {K : Kx} (p : Pm K) (g : G) (σ : L2.St) (H : Hp) (s : S) : Prop where
  m : RM K g H s.ms
  f : RF K p.xc g σ H s.env
  tabs : LamX.Tabs p.T H
  bg : p.B.P g H s.ms
theorem RS.go {K : Kx} {p : Pm K} {g g' : G} {σ σ' : L2.St} {H H' : Hp} {s s' : S} (r : RS p g σ H s) (e : ExtS g H g' H') (m : RM K g' H' s'.ms) (f : RF K p.xc g' σ' H' s'.env) (t : LamX.Tabs p.T H') : RS p g' σ' H' s' :=
  ⟨m, f, t, p.B.up r.bg e m⟩
/-! ### liftings -/
inductive Fl where
  | nx | ret (d : D) | bk | ct
/-- v tells d now (it may be a slot's own list) -/
def RVp (K : Kx) (g : G) (H : Hp) (d : D) (v : V) : Prop :=
  RV K g.F g.φ d v ∨ ∃ a vs ds, d = .lst ds ∧ v = .ref a ∧ H a = some (.lst vs) ∧ RVs K g.F g.φ ds vs ∧ a ∉ g.φ
section
variable {K : Kx} (p : Pm K) (σ : L2.St)
/-- what follows from what a mirror hands back: A says how the answer stands -/
def Post {α β : Type} (A : α → β → G → Hp → G → Hp → Prop) (r : R α) (g : G) (H : Hp) (Q : β → Hp → Prop) : Prop := match r with
  | .ok d s' => ∀ v H' g', RS p g' σ H' s' → Ext g H g' H' → A d v g H g' H' → Q v H'
  | .err c fs s' => ∀ H' g' dx, RS p g' σ H' s' → Ext g H g' H' → REx K g' H' fs dx → p.W c dx σ H'
  | .stuck => False
end
/-- a value, one that is only read, a truth value, a list of values, a new list that nothing else knows -/
abbrev AV (K : Kx) : D → V → G → Hp → G → Hp → Prop := fun d v _ _ g' _ => RV K g'.F g'.φ d v
abbrev AP (K : Kx) : D → V → G → Hp → G → Hp → Prop := fun d v _ _ g' H' => RVp K g' H' d v
abbrev AB : Bool → Bool → G → Hp → G → Hp → Prop := fun d v _ _ _ _ => v = d
abbrev AL (K : Kx) : List D → List V → G → Hp → G → Hp → Prop := fun d v _ _ g' _ => RVs K g'.F g'.φ d v
abbrev AF (K : Kx) : List D → V → G → Hp → G → Hp → Prop := fun ds v _ H g' H' => ∃ a vs, v = .ref a ∧ RVs K g'.F g'.φ ds vs ∧ H' a = some (.lst vs) ∧ g'.F a = none ∧ a ∉ g'.φ ∧ (∀ j, g'.ω j ≠ some a) ∧ H a = none
def tG {K : Kx} {α β : Type} (p : Pm K) (A : α → β → G → Hp → G → Hp → Prop) (f : M α) : L2.St → Hp → (β → Hp → Prop) → Prop := fun σ H Q => ∃ g s, RS p g σ H s ∧ Post p σ A (f s) g H Q
abbrev tD {K : Kx} (p : Pm K) (f : M D) : TE := tG p (AV K) f
abbrev tP {K : Kx} (p : Pm K) (f : M D) : TE := tG p (AP K) f
abbrev tB {K : Kx} (p : Pm K) (f : M Bool) : TT := tG p AB f
abbrev tL {K : Kx} (p : Pm K) (f : M (List D)) : TA := tG p (AL K) f
abbrev tF {K : Kx} (p : Pm K) (f : M (List D)) : TE := tG p (AF K) f
def PstS {K : Kx} (p : Pm K) (r : R Fl) (g : G) (H : Hp) (D : Ends) : Prop := match r with
  | .ok .nx s' => ∀ σ' H' g', RS p g' σ' H' s' → ExtS g H g' H' → D.nx σ' H'
  | .ok (.ret d) s' => ∀ v σ' H' g', RS p g' σ' H' s' → ExtS g H g' H' → RV K g'.F g'.φ d v → D.rt v H'
  | .ok .bk s' => ∀ σ' H' g', RS p g' σ' H' s' → ExtS g H g' H' → D.bk σ' H'
  | .ok .ct s' => ∀ σ' H' g', RS p g' σ' H' s' → ExtS g H g' H' → D.ct σ' H'
  | .err c fs s' => ∀ σ' H' g' dx, RS p g' σ' H' s' → ExtS g H g' H' → REx K g' H' fs dx → p.W c dx σ' H'
  | .stuck => False
def tS {K : Kx} (p : Pm K) (f : M Fl) : TS := fun D σ H => ∃ g s, RS p g σ H s ∧ PstS p (f s) g H D

section
variable {K : Kx} {p : Pm K} {σ : L2.St} {g g1 : G} {H H1 : Hp} {s s1 : S}
/-- an answer's standing does not depend on where one looks from -/
def Pre {α β : Type} (A : α → β → G → Hp → G → Hp → Prop) : Prop := ∀ d v g H g1 H1 g' H', Ext g H g1 H1 → A d v g1 H1 g' H' → A d v g H g' H'
theorem preV : Pre (AV K) := fun _ _ _ _ _ _ _ _ _ a => a
theorem preP : Pre (AP K) := fun _ _ _ _ _ _ _ _ _ a => a
theorem preB : Pre AB := fun _ _ _ _ _ _ _ _ _ a => a
theorem preL : Pre (AL K) := fun _ _ _ _ _ _ _ _ _ a => a
theorem preF : Pre (AF K) := fun _ _ _ _ _ _ _ _ e ⟨a, vs, h1, h2, h3, h4, h5, h6, h7⟩ => ⟨a, vs, h1, h2, h3, h4, h5, h6, e.gone h7⟩
theorem Post.pre {α β : Type} {A : α → β → G → Hp → G → Hp → Prop} (pa : Pre A) {r : R α} {Q : β → Hp → Prop} (e : Ext g H g1 H1) (h : Post p σ A r g H Q) : Post p σ A r g1 H1 Q := by
  cases r with
  | ok d s' => exact fun v H' g' a b c => h v H' g' a (e.trans b) (pa _ _ _ _ _ _ _ _ e c)
  | err c fs s' => exact fun H' g' dx a b c => h H' g' dx a (e.trans b) c
  | stuck => exact h
theorem PstS.pre {r : R Fl} {D : Ends} (e : ExtS g H g1 H1) (h : PstS p r g H D) : PstS p r g1 H1 D := by
  cases r with
  | ok d s' =>
    cases d with
    | nx => exact fun σ' H' g' a b => h σ' H' g' a (e.trans b)
    | ret d => exact fun v σ' H' g' a b c => h v σ' H' g' a (e.trans b) c
    | bk => exact fun σ' H' g' a b => h σ' H' g' a (e.trans b)
    | ct => exact fun σ' H' g' a b => h σ' H' g' a (e.trans b)
  | err c fs s' => exact fun σ' H' g' dx a b c => h σ' H' g' dx a (e.trans b) c
  | stuck => exact h
/-- bind: the first part, then the rest from where it ends -/
theorem Post.bnd {α β γ δ : Type} {A : α → β → G → Hp → G → Hp → Prop} {A' : γ → δ → G → Hp → G → Hp → Prop} (pa : Pre A') {m : M α} {k : α → M γ} {Q : δ → Hp → Prop} (h : Post p σ A' (bnd m k s) g H Q) :
    Post p σ A (m s) g H fun v H1 => ∃ g1 s1 d, RS p g1 σ H1 s1 ∧ Ext g H g1 H1 ∧ A d v g H g1 H1 ∧ Post p σ A' (k d s1) g1 H1 Q := by
  unfold Mp.bnd at h
  cases e : m s with
  | ok d s' =>
    rw [e] at h
    exact fun v H' g' a b c => ⟨g', s', d, a, b, c, Post.pre pa b h⟩
  | err c fs s' =>
    rw [e] at h
    exact h
  | stuck =>
    rw [e] at h
    exact h
/-- .. where what follows is a statement -/
theorem PstS.bnd {α β : Type} {A : α → β → G → Hp → G → Hp → Prop} {m : M α} {k : α → M Fl} {D : Ends} (h : PstS p (Mp.bnd m k s) g H D) :
    Post p σ A (m s) g H fun v H1 => ∃ g1 s1 d, RS p g1 σ H1 s1 ∧ Ext g H g1 H1 ∧ A d v g H g1 H1 ∧ PstS p (k d s1) g1 H1 D := by
  unfold Mp.bnd at h
  cases e : m s with
  | ok d s' =>
    rw [e] at h
    exact fun v H' g' a b c => ⟨g', s', d, a, b, c, PstS.pre b.s h⟩
  | err c fs s' =>
    rw [e] at h
    exact fun H' g' dx a b c => h σ H' g' dx a b.s c
  | stuck =>
    rw [e] at h
    exact h
/-- a reading's end is weakened -/
theorem Post.mono {α β : Type} {A : α → β → G → Hp → G → Hp → Prop} {r : R α} {Q Q' : β → Hp → Prop} (h : Post p σ A r g H Q) (w : ∀ v H', Q v H' → Q' v H') : Post p σ A r g H Q' := by
  cases r with
  | ok d s' => exact fun v H' g' a b c => w _ _ (h v H' g' a b c)
  | err c fs s' => exact h
  | stuck => exact h
end
end Mp

set_option Elab.async false
set_option linter.all false
set_option maxRecDepth 100000
set_option maxHeartbeats 4000000
namespace Mp
open PySem PySem.Spec L2
open PyProof.Rows hiding St

theorem ne_tbl {H : Hp} {a P : Addr} {o : HO} {ps : Array Value} (h : H a = some o) (hP : H P = some (.tbl ps)) (n : ∀ ps, o ≠ .tbl ps) : P ≠ a := fun e => by
  rw [e, h] at hP
  cases hP
  exact n _ rfl
/-- tables stay where an object that is no table is written -/
theorem tabs_upd {T : List (Addr × Str)} {H : Hp} {a : Addr} {u : HO} (t : LamX.Tabs T H) (h : ∀ o, H a = some o → (∀ ps, o ≠ .tbl ps) ∧ ∀ φ, o ≠ .ext φ) : LamX.Tabs T (upd H a u) := fun p hp => by
  obtain ⟨ps, h1, h2, h3⟩ := t p hp
  have n1 : p.1 ≠ a := fun e => by
    rw [e] at h1
    exact (h _ h1).1 _ rfl
  refine ⟨ps, by rw [upd_ne n1]; exact h1, h2, fun pos cv hc => ?_⟩
  obtain ⟨c, e1, e2⟩ := h3 pos cv hc
  refine ⟨c, e1, ?_⟩
  have n2 : c ≠ a := fun e => by
    rw [e] at e2
    unfold LamX.CodeO at e2
    exact (h _ e2).2 _ rfl
  rw [upd_ne n2]
  exact e2
section
variable {K : Kx} {p : Pm K} {xc : Option (Addr × Value × Option Addr)} {σ : L2.St} {g g' : G} {H H' : Hp} {s : S} {env : List Sl} {ms : List (List D)}
/-! ### a new object that stays -/
def G.add (g : G) (q : Addr) (o : HO) : G := { g with F := upd g.F q o }
theorem G.add_same {g : G} {q : Addr} {o : HO} : (g.add q o).F q = some o := upd_same
theorem RM.addUp (m : RM K g H ms) {q : Addr} (hq : H q = none) (o : HO) : ∀ b u, g.F b = some u → (g.add q o).F b = some u := fun b u z => by
  have e : b ≠ q := fun e => by
    have := m.sub b u z
    rw [e, hq] at this
    cases this
  rw [show (g.add q o).F b = g.F b from upd_ne e]
  exact z
theorem RM.add (m : RM K g H ms) {q : Addr} (hq : H q = none) (o : HO) : RM K (g.add q o) (upd H q o) ms where
  sub := fun a u h => by
    by_cases e : a = q
    · subst e
      rw [show (g.add a o).F a = some o from upd_same] at h
      rw [upd_same]
      exact h
    · rw [show (g.add q o).F a = g.F a from upd_ne e] at h
      rw [upd_ne e]
      exact m.sub a u h
  mlen := m.mlen
  mem := fun n a ds h1 h2 => by
    obtain ⟨vs, h3, h4, h5⟩ := m.mem n a ds h1 h2
    have e : a ≠ q := ne_of_none h3 hq
    refine ⟨vs, by rw [upd_ne e]; exact h3, RVs.up (m.addUp hq o) ⟨[], by simp [G.add]⟩ _ _ h4, ?_⟩
    rw [show (g.add q o).F a = g.F a from upd_ne e]
    exact h5
  nod := m.nod
theorem REx.add {fs : List (Str × D)} {dx : Option Addr} (m : RM K g H ms) {q : Addr} (hq : H q = none) (o : HO) (h : REx K g H fs dx) : REx K (g.add q o) (upd H q o) fs dx := by
  cases dx with
  | none => exact h
  | some d =>
    obtain ⟨vs, h1, h2, h3, h4⟩ := h
    exact ⟨vs, by rw [upd_ne (ne_of_none h1 hq)]; exact h1, RVs.up (m.addUp hq o) ⟨[], by simp [G.add]⟩ _ _ h2, h3, h4⟩
theorem RF.add (m : RM K g H ms) (r : RF K xc g σ H env) {q : Addr} (hq : H q = none) (o : HO) : RF K xc (g.add q o) σ (upd H q o) env where
  len := r.len
  env := fun i d h => by
    obtain ⟨v, h1, h2⟩ := r.env i d h
    exact ⟨v, h1, RV.up (m.addUp hq o) ⟨[], by simp [G.add]⟩ _ _ h2⟩
  own := fun i ds h => by
    obtain ⟨a, vs, h1, h2, h3, h4, h5, h6⟩ := r.own i ds h
    have e : a ≠ q := ne_of_none h3 hq
    refine ⟨a, vs, h1, h2, by rw [upd_ne e]; exact h3, RVs.up (m.addUp hq o) ⟨[], by simp [G.add]⟩ _ _ h4, ?_, h6⟩
    rw [show (g.add q o).F a = g.F a from upd_ne e]
    exact h5
  exc := fun i c fs h => by
    obtain ⟨a, dx, h1, h2, h3⟩ := r.exc i c fs h
    exact ⟨a, dx, h1, h2, h3.add m hq o⟩
  is := r.is
  inj := r.inj
theorem RM.addE (m : RM K g H ms) {q : Addr} (hq : H q = none) (o : HO) : Ext g H (g.add q o) (upd H q o) where
  fr := m.addUp hq o
  ph := ⟨[], by simp [G.add]⟩
  new := fun _ h => .inl h
  fnew := fun a u h => by
    by_cases e : a = q
    · subst e
      exact .inr (.inl hq)
    · rw [show (g.add q o).F a = g.F a from upd_ne e] at h
      exact .inl h
  nom := fun i a h => .inl ⟨i, h⟩
  there := fun b u h => by
    by_cases e : b = q
    · subst e
      exact ⟨o, upd_same⟩
    · exact ⟨u, by rw [upd_ne e]; exact h⟩
  keep := fun b u h _ _ => by rw [upd_ne (ne_of_none h hq)]; exact h
theorem RS.add (r : RS p g σ H s) {q : Addr} (hq : H q = none) (o : HO) : RS p (g.add q o) σ (upd H q o) s :=
  r.go (r.m.addE hq o).s (r.m.add hq o) (RF.add r.m r.f hq o) (r.tabs.ext fun b u h => by rw [upd_ne (ne_of_none h hq)]; exact h)
theorem RS.addE (r : RS p g σ H s) {q : Addr} (hq : H q = none) (o : HO) : Ext g H (g.add q o) (upd H q o) := r.m.addE hq o
/-! ### a list becomes frozen -/
def G.fz (g : G) (a : Addr) (vs : List V) : G := { g with F := upd g.F a (.lst vs) }
theorem fz_up {a : Addr} {vs : List V} (hf : g.F a = none) : ∀ b u, g.F b = some u → (g.fz a vs).F b = some u := fun b u q => by
  have e : b ≠ a := fun e => by rw [e, hf] at q; cases q
  rw [show (g.fz a vs).F b = g.F b from upd_ne e]
  exact q
theorem RM.fz {a : Addr} {vs : List V} (m : RM K g H ms) (ha : H a = some (.lst vs)) (hf : g.F a = none) (hp : a ∉ g.φ) : RM K (g.fz a vs) H ms where
  sub := fun b u q => by
    by_cases e : b = a
    · subst e
      rw [show (g.fz b vs).F b = some (.lst vs) from upd_same] at q
      cases q
      exact ha
    · rw [show (g.fz a vs).F b = g.F b from upd_ne e] at q
      exact m.sub b u q
  mlen := m.mlen
  mem := fun n b ds q1 q2 => by
    obtain ⟨ws, z1, z2, z3⟩ := m.mem n b ds q1 q2
    have ne : b ≠ a := fun z => hp (by rw [← z]; exact List.mem_of_getElem? q1)
    refine ⟨ws, z1, RVs.up (fz_up hf) ⟨[], by simp [G.fz]⟩ _ _ z2, ?_⟩
    rw [show (g.fz a vs).F b = g.F b from upd_ne ne]
    exact z3
  nod := m.nod
theorem REx.fz {a : Addr} {vs : List V} {fs : List (Str × D)} {dx : Option Addr} (hf : g.F a = none) (h : REx K g H fs dx) : REx K (g.fz a vs) H fs dx := by
  cases dx with
  | none => exact h
  | some d =>
    obtain ⟨vs, h1, h2, h3, h4⟩ := h
    exact ⟨vs, h1, RVs.up (fz_up hf) ⟨[], by simp [G.fz]⟩ _ _ h2, h3, h4⟩
theorem RF.fz {a : Addr} {vs : List V} (r : RF K xc g σ H env) (hf : g.F a = none) (ho : ∀ j, g.ω j ≠ some a) : RF K xc (g.fz a vs) σ H env where
  len := r.len
  env := fun j d q => by
    obtain ⟨v, q1, q2⟩ := r.env j d q
    exact ⟨v, q1, RV.up (fz_up hf) ⟨[], by simp [G.fz]⟩ _ _ q2⟩
  own := fun j ds q => by
    obtain ⟨b, ws, q1, q2, q3, q4, q5, q6⟩ := r.own j ds q
    have ne : b ≠ a := fun z => ho j (by rw [← z]; exact q1)
    refine ⟨b, ws, q1, q2, q3, RVs.up (fz_up hf) ⟨[], by simp [G.fz]⟩ _ _ q4, ?_, q6⟩
    rw [show (g.fz a vs).F b = g.F b from upd_ne ne]
    exact q5
  exc := fun i c fs h => by
    obtain ⟨a, dx, h1, h2, h3⟩ := r.exc i c fs h
    exact ⟨a, dx, h1, h2, h3.fz hf⟩
  is := r.is
  inj := r.inj
theorem Ext.fz {g0 : G} {H0 : Hp} {a : Addr} {vs : List V} (e : Ext g0 H0 g H) (hf : g.F a = Option.none) (hn : H0 a = Option.none) : Ext g0 H0 (g.fz a vs) H where
  fr := fun b u q => fz_up hf b u (e.fr b u q)
  ph := e.ph
  new := e.new
  fnew := fun b u q => by
    by_cases z : b = a
    · subst z
      exact .inr (.inl hn)
    · rw [show (g.fz a vs).F b = g.F b from upd_ne z] at q
      exact e.fnew b u q
  nom := e.nom
  there := e.there
  keep := e.keep
theorem RS.fz {a : Addr} {vs : List V} {g0 : G} {H0 : Hp} {s0 : S} (r0 : RS p g0 σ H0 s0) (r : RS p g σ H s) (e : Ext g0 H0 g H) (hn : H0 a = none) (ha : H a = some (.lst vs)) (hf : g.F a = none) (hp : a ∉ g.φ) (ho : ∀ j, g.ω j ≠ some a) : RS p (g.fz a vs) σ H s :=
  r0.go (e.fz hf hn).s (r.m.fz ha hf hp) (r.f.fz hf ho) r.tabs
/-! ### slots -/
def getv (i : Nat) : M D := fun s => match s.env[i]? with
  | some (.val d) => .ok d s
  | some (.own xs) => .ok (.lst xs) { s with env := s.env.set i (.val (.lst xs)) }
  | _ => .stuck
/-- read, not kept -/
def peekv (i : Nat) : M D := fun s => match s.env[i]? with
  | some (.val d) => .ok d s
  | some (.own xs) => .ok (.lst xs) s
  | _ => .stuck
def setv (i : Nat) (d : D) : M Unit := fun s => if i < s.env.length then .ok () { s with env := s.env.set i (.val d) } else .stuck
/-- the list of slot i is frozen -/
def G.frz (g : G) (i : Nat) (a : Addr) (vs : List V) : G := { g with F := upd g.F a (.lst vs), ω := fun j => if j = i then none else g.ω j }
theorem frz_up {i : Nat} {a : Addr} {vs : List V} (hf : g.F a = none) : ∀ b u, g.F b = some u → (g.frz i a vs).F b = some u := fun b u q => by
  have e : b ≠ a := fun e => by rw [e, hf] at q; cases q
  rw [show (g.frz i a vs).F b = g.F b from upd_ne e]
  exact q
theorem frz_om {i j : Nat} {a b : Addr} {vs : List V} (h : (g.frz i a vs).ω j = some b) : j ≠ i ∧ g.ω j = some b := by
  have q : (if j = i then none else g.ω j) = some b := h
  split at q
  · cases q
  · exact ⟨by assumption, q⟩
theorem REx.frz {i : Nat} {a : Addr} {vs : List V} {fs : List (Str × D)} {dx : Option Addr} (hf : g.F a = none) (h : REx K g H fs dx) : REx K (g.frz i a vs) H fs dx := by
  cases dx with
  | none => exact h
  | some d =>
    obtain ⟨vs, h1, h2, h3, h4⟩ := h
    exact ⟨vs, h1, RVs.up (frz_up hf) ⟨[], by simp [G.frz]⟩ _ _ h2, h3, fun j q => h4 j (frz_om q).2⟩
theorem RF.frz (r : RF K xc g σ H env) {i : Nat} {xs : List D} (h : env[i]? = some (Sl.own xs)) {a : Addr} {vs : List V} (h1 : g.ω i = some a) (h2 : σ[i]? = some (some (.ref a))) (h3 : H a = some (.lst vs)) (h4 : RVs K g.F g.φ xs vs)
    (h5 : g.F a = none) : RF K xc (g.frz i a vs) σ H (env.set i (.val (.lst xs))) := by
  have hi : i < env.length := (List.getElem?_eq_some_iff.mp h).1
  refine ⟨by rw [List.length_set]; exact r.len, fun j d q => ?_, fun j ds q => ?_, fun j c fs q => ?_, fun j b q => ?_, fun j k b q1 q2 => r.inj j k b (frz_om q1).2 (frz_om q2).2⟩
  · by_cases e : i = j
    · subst e
      rw [List.getElem?_set_self hi] at q
      cases q
      exact ⟨_, h2, .lst upd_same (RVs.up (frz_up h5) ⟨[], by simp [G.frz]⟩ _ _ h4)⟩
    · rw [List.getElem?_set_ne e] at q
      obtain ⟨v, q1, q2⟩ := r.env j d q
      exact ⟨v, q1, RV.up (frz_up h5) ⟨[], by simp [G.frz]⟩ _ _ q2⟩
  · by_cases e : i = j
    · subst e
      rw [List.getElem?_set_self hi] at q
      cases q
    · rw [List.getElem?_set_ne e] at q
      obtain ⟨b, ws, q1, q2, q3, q4, q5, q6⟩ := r.own j ds q
      have ne : b ≠ a := fun z => e (r.inj i j a h1 (by rw [← z]; exact q1))
      refine ⟨b, ws, ?_, q2, q3, RVs.up (frz_up h5) ⟨[], by simp [G.frz]⟩ _ _ q4, ?_, q6⟩
      · show (if j = i then none else g.ω j) = some b
        rw [if_neg (Ne.symm e)]
        exact q1
      · rw [show (g.frz i a vs).F b = g.F b from upd_ne ne]
        exact q5
  · by_cases e : i = j
    · subst e
      rw [List.getElem?_set_self hi] at q
      cases q
    · rw [List.getElem?_set_ne e] at q
      obtain ⟨b, dx, q1, q2, q3⟩ := r.exc j c fs q
      exact ⟨b, dx, q1, q2, q3.frz h5⟩
  · obtain ⟨e, q'⟩ := frz_om q
    obtain ⟨ds, z⟩ := r.is j b q'
    exact ⟨ds, by rw [List.getElem?_set_ne (Ne.symm e)]; exact z⟩
theorem RM.frz (m : RM K g H ms) {i : Nat} {a : Addr} {vs : List V} (h3 : H a = some (.lst vs)) (h5 : g.F a = none) (h6 : a ∉ g.φ) : RM K (g.frz i a vs) H ms where
  sub := (m.fz h3 h5 h6).sub
  mlen := m.mlen
  mem := (m.fz h3 h5 h6).mem
  nod := m.nod
theorem G.frzE (g : G) (H : Hp) {i : Nat} {a : Addr} {vs : List V} (h1 : g.ω i = some a) (h5 : g.F a = none) : Ext g H (g.frz i a vs) H where
  fr := frz_up h5
  ph := ⟨[], by simp [G.frz]⟩
  new := fun _ h => .inl h
  fnew := fun b u h => by
    by_cases e : b = a
    · subst e
      exact .inr (.inr ⟨i, h1⟩)
    · rw [show (g.frz i a vs).F b = g.F b from upd_ne e] at h
      exact .inl h
  nom := fun j b h => .inl ⟨j, (frz_om h).2⟩
  there := fun b u h => ⟨u, h⟩
  keep := fun b u h _ _ => h
theorem RS.frz (r : RS p g σ H s) {i : Nat} {xs : List D} (h : s.env[i]? = some (Sl.own xs)) {a : Addr} {vs : List V} (h1 : g.ω i = some a) (h2 : σ[i]? = some (some (.ref a))) (h3 : H a = some (.lst vs)) (h4 : RVs K g.F g.φ xs vs)
    (h5 : g.F a = none) (h6 : a ∉ g.φ) : RS p (g.frz i a vs) σ H { s with env := s.env.set i (.val (.lst xs)) } :=
  r.go (s' := { s with env := s.env.set i (.val (.lst xs)) }) (g.frzE H h1 h5).s (r.m.frz h3 h5 h6) (r.f.frz h h1 h2 h3 h4 h5) r.tabs
/-- a slot set to a value -/
def G.drop (g : G) (i : Nat) : G := { g with ω := fun j => if j = i then none else g.ω j }
theorem drop_om {i j : Nat} {b : Addr} (h : (g.drop i).ω j = some b) : j ≠ i ∧ g.ω j = some b := by
  have q : (if j = i then none else g.ω j) = some b := h
  split at q
  · cases q
  · exact ⟨by assumption, q⟩
theorem REx.drop {i : Nat} {fs : List (Str × D)} {dx : Option Addr} (h : REx K g H fs dx) : REx K (g.drop i) H fs dx := by
  cases dx with
  | none => exact h
  | some d =>
    obtain ⟨vs, h1, h2, h3, h4⟩ := h
    exact ⟨vs, h1, h2, h3, fun j q => h4 j (drop_om q).2⟩
/-- slot i is set anew: what stands there is told by hs -/
theorem RF.put (r : RF K xc g σ H env) {i : Nat} (hi : i < env.length) {sl : Sl} {o : Option V} (hs : (sl = .un) ∨ (∃ d v, sl = .val d ∧ o = some v ∧ RV K g.F g.φ d v) ∨ ∃ c fs a dx, sl = .exc c fs ∧ o = some (.ref a) ∧ xc = some (a, c, dx) ∧ REx K g H fs dx) :
    RF K xc (g.drop i) (σ.set i o) H (env.set i sl) := by
  have hi' : i < σ.length := by rw [← r.len]; exact hi
  refine ⟨by rw [List.length_set, List.length_set]; exact r.len, fun j e q => ?_, fun j ds q => ?_, fun j c fs q => ?_, fun j b q => ?_, fun j k b q1 q2 => r.inj j k b (drop_om q1).2 (drop_om q2).2⟩
  · by_cases e : i = j
    · subst e
      rw [List.getElem?_set_self hi] at q
      rcases hs with hs | ⟨d, v, hs, ho, hv⟩ | ⟨c, fs, a, dx, hs, ho, h1, h2⟩
      · rw [hs] at q
        cases q
      · rw [hs] at q
        cases q
        exact ⟨v, by rw [List.getElem?_set_self hi', ho], hv⟩
      · rw [hs] at q
        cases q
    · rw [List.getElem?_set_ne e] at q
      obtain ⟨u, q1, q2⟩ := r.env j _ q
      exact ⟨u, by rw [List.getElem?_set_ne e]; exact q1, q2⟩
  · by_cases e : i = j
    · subst e
      rw [List.getElem?_set_self hi] at q
      rcases hs with hs | ⟨d, v, hs, ho, hv⟩ | ⟨c, fs, a, dx, hs, ho, h1, h2⟩ <;> (rw [hs] at q; cases q)
    · rw [List.getElem?_set_ne e] at q
      obtain ⟨b, ws, q1, q2, q3, q4, q5, q6⟩ := r.own j ds q
      refine ⟨b, ws, ?_, by rw [List.getElem?_set_ne e]; exact q2, q3, q4, q5, q6⟩
      show (if j = i then none else g.ω j) = some b
      rw [if_neg (Ne.symm e)]
      exact q1
  · by_cases e : i = j
    · subst e
      rw [List.getElem?_set_self hi] at q
      rcases hs with hs | ⟨d, v, hs, ho, hv⟩ | ⟨c', fs', a, dx, hs, ho, h1, h2⟩
      · rw [hs] at q
        cases q
      · rw [hs] at q
        cases q
      · rw [hs] at q
        cases q
        exact ⟨a, dx, h1, by rw [List.getElem?_set_self hi', ho], h2.drop⟩
    · rw [List.getElem?_set_ne e] at q
      obtain ⟨b, dx, q1, q2, q3⟩ := r.exc j c fs q
      exact ⟨b, dx, q1, by rw [List.getElem?_set_ne e]; exact q2, q3.drop⟩
  · obtain ⟨e, q'⟩ := drop_om q
    obtain ⟨ds, z⟩ := r.is j b q'
    exact ⟨ds, by rw [List.getElem?_set_ne (Ne.symm e)]; exact z⟩
theorem RM.drop (m : RM K g H ms) {i : Nat} : RM K (g.drop i) H ms := ⟨m.sub, m.mlen, m.mem, m.nod⟩
theorem G.dropE (g : G) (H : Hp) (i : Nat) : Ext g H (g.drop i) H where
  fr := fun _ _ h => h
  ph := ⟨[], by simp [G.drop]⟩
  new := fun _ h => .inl h
  fnew := fun _ _ h => .inl h
  nom := fun j b h => .inl ⟨j, (drop_om h).2⟩
  there := fun b u h => ⟨u, h⟩
  keep := fun b u h _ _ => h
theorem RS.setv (r : RS p g σ H s) {i : Nat} (hi : i < s.env.length) {d : D} {v : V} (rv : RV K g.F g.φ d v) : RS p (g.drop i) (σ.set i (some v)) H { s with env := s.env.set i (.val d) } :=
  r.go (s' := { s with env := s.env.set i (.val d) }) (g.dropE H i).s r.m.drop (r.f.put hi (.inr (.inl ⟨d, v, rfl, rfl, rv⟩))) r.tabs
theorem RS.unset (r : RS p g σ H s) {i : Nat} (hi : i < s.env.length) {o : Option V} : RS p (g.drop i) (σ.set i o) H { s with env := s.env.set i .un } :=
  r.go (s' := { s with env := s.env.set i .un }) (g.dropE H i).s r.m.drop (r.f.put hi (.inl rfl)) r.tabs
/-- a slot set to a list of its own -/
def setown (i : Nat) (xs : List D) : M Unit := fun s => if i < s.env.length then .ok () { s with env := s.env.set i (.own xs) } else .stuck
def G.take (g : G) (i : Nat) (a : Addr) : G := { g with ω := fun j => if j = i then some a else g.ω j }
theorem take_om {i j : Nat} {a b : Addr} (h : (g.take i a).ω j = some b) : (j = i ∧ a = b) ∨ (j ≠ i ∧ g.ω j = some b) := by
  have q : (if j = i then some a else g.ω j) = some b := h
  split at q
  · exact .inl ⟨by assumption, Option.some.inj q⟩
  · exact .inr ⟨by assumption, q⟩
theorem REx.take {i : Nat} {a : Addr} {vs : List V} {fs : List (Str × D)} {dx : Option Addr} (ha : H a = some (.lst vs)) (h : REx K g H fs dx) : REx K (g.take i a) H fs dx := by
  cases dx with
  | none => exact h
  | some d =>
    obtain ⟨ws, h1, h2, h3, h4⟩ := h
    refine ⟨ws, h1, h2, h3, fun j q => ?_⟩
    rcases take_om q with ⟨_, e⟩ | ⟨_, q⟩
    · rw [e, h1] at ha
      cases ha
    · exact h4 j q
theorem RF.setown (r : RF K xc g σ H env) {i : Nat} (hi : i < env.length) {xs : List D} {vs : List V} {a : Addr} (h3 : H a = some (.lst vs)) (h4 : RVs K g.F g.φ xs vs) (h5 : g.F a = none) (h6 : a ∉ g.φ) (h7 : ∀ j, g.ω j ≠ some a) :
    RF K xc (g.take i a) (σ.set i (some (.ref a))) H (env.set i (.own xs)) := by
  have hi' : i < σ.length := by rw [← r.len]; exact hi
  refine ⟨by rw [List.length_set, List.length_set]; exact r.len, fun j e q => ?_, fun j ds q => ?_, fun j c fs q => ?_, fun j b q => ?_, fun j k b q1 q2 => ?_⟩
  · by_cases e : i = j
    · subst e
      rw [List.getElem?_set_self hi] at q
      cases q
    · rw [List.getElem?_set_ne e] at q
      obtain ⟨u, q1, q2⟩ := r.env j _ q
      exact ⟨u, by rw [List.getElem?_set_ne e]; exact q1, q2⟩
  · by_cases e : i = j
    · subst e
      rw [List.getElem?_set_self hi] at q
      cases q
      refine ⟨a, vs, ?_, List.getElem?_set_self hi', h3, h4, h5, h6⟩
      show (if i = i then some a else g.ω i) = some a
      rw [if_pos rfl]
    · rw [List.getElem?_set_ne e] at q
      obtain ⟨b, ws, q1, q2, q3, q4, q5, q6⟩ := r.own j ds q
      refine ⟨b, ws, ?_, by rw [List.getElem?_set_ne e]; exact q2, q3, q4, q5, q6⟩
      show (if j = i then some a else g.ω j) = some b
      rw [if_neg (Ne.symm e)]
      exact q1
  · by_cases e : i = j
    · subst e
      rw [List.getElem?_set_self hi] at q
      cases q
    · rw [List.getElem?_set_ne e] at q
      obtain ⟨b, dx, q1, q2, q3⟩ := r.exc j c fs q
      exact ⟨b, dx, q1, by rw [List.getElem?_set_ne e]; exact q2, q3.take h3⟩
  · rcases take_om q with ⟨e, _⟩ | ⟨e, q'⟩
    · subst e
      exact ⟨xs, List.getElem?_set_self hi⟩
    · obtain ⟨ds, z⟩ := r.is j b q'
      exact ⟨ds, by rw [List.getElem?_set_ne (Ne.symm e)]; exact z⟩
  · rcases take_om q1 with ⟨e1, z1⟩ | ⟨e1, z1⟩
    · rcases take_om q2 with ⟨e2, z2⟩ | ⟨e2, z2⟩
      · rw [e1, e2]
      · rw [← z1] at z2
        exact absurd z2 (h7 k)
    · rcases take_om q2 with ⟨e2, z2⟩ | ⟨e2, z2⟩
      · rw [← z2] at z1
        exact absurd z1 (h7 j)
      · exact r.inj j k b z1 z2
theorem ExtS.take {g0 : G} {H0 : Hp} (e : ExtS g0 H0 g H) {i : Nat} {a : Addr} (hn : H0 a = Option.none) : ExtS g0 H0 (g.take i a) H where
  fr := e.fr
  ph := e.ph
  new := e.new
  fnew := e.fnew
  nom := fun j b h => by
    rcases take_om h with ⟨_, z⟩ | ⟨_, z⟩
    · rw [← z]
      exact .inr hn
    · exact e.nom j b z
  there := e.there
  keep := e.keep
theorem RM.take (m : RM K g H ms) {i : Nat} {a : Addr} : RM K (g.take i a) H ms := ⟨m.sub, m.mlen, m.mem, m.nod⟩
/-- a new list goes into a slot -/
theorem RS.setown {g0 : G} {H0 : Hp} {s0 : S} (r0 : RS p g0 σ H0 s0) (r : RS p g σ H s) (e : ExtS g0 H0 g H) {i : Nat} (hi : i < s.env.length) {xs : List D} {vs : List V} {a : Addr} (h3 : H a = some (.lst vs)) (h4 : RVs K g.F g.φ xs vs)
    (h5 : g.F a = none) (h6 : a ∉ g.φ) (h7 : ∀ j, g.ω j ≠ some a) (hn : H0 a = none) : RS p (g.take i a) (σ.set i (some (.ref a))) H { s with env := s.env.set i (.own xs) } :=
  r0.go (s' := { s with env := s.env.set i (.own xs) }) (e.take hn) r.m.take (r.f.setown hi h3 h4 h5 h6 h7) r.tabs
/-- a slot's own list is written -/
theorem RM.ownw (m : RM K g H ms) {a : Addr} {vs : List V} {o : HO} (h3 : H a = some (.lst vs)) (h5 : g.F a = none) (h6 : a ∉ g.φ) : RM K g (upd H a o) ms where
  sub := fun b u q => by
    have e : b ≠ a := fun e => by rw [e, h5] at q; cases q
    rw [upd_ne e]
    exact m.sub b u q
  mlen := m.mlen
  mem := fun n b ds q1 q2 => by
    obtain ⟨ws, z1, z2, z3⟩ := m.mem n b ds q1 q2
    have ne : b ≠ a := fun z => h6 (by rw [← z]; exact List.mem_of_getElem? q1)
    exact ⟨ws, by rw [upd_ne ne]; exact z1, z2, z3⟩
  nod := m.nod
theorem REx.ownw {a : Addr} {o : HO} {fs : List (Str × D)} {dx : Option Addr} {i : Nat} (h1 : g.ω i = some a) (h : REx K g H fs dx) : REx K g (upd H a o) fs dx := by
  cases dx with
  | none => exact h
  | some d =>
    obtain ⟨vs, z1, z2, z3, z4⟩ := h
    exact ⟨vs, by rw [upd_ne (fun z => z4 i (by rw [z]; exact h1))]; exact z1, z2, z3, z4⟩
theorem RF.ownw (r : RF K xc g σ H env) {i : Nat} {xs ys : List D} (h : env[i]? = some (Sl.own xs)) {a : Addr} {ws : List V} (h1 : g.ω i = some a) (h2 : σ[i]? = some (some (.ref a)))
    (h4 : RVs K g.F g.φ ys ws) (h5 : g.F a = none) (h6 : a ∉ g.φ) : RF K xc g σ (upd H a (.lst ws)) (env.set i (.own ys)) := by
  have hi : i < env.length := (List.getElem?_eq_some_iff.mp h).1
  refine ⟨by rw [List.length_set]; exact r.len, fun j d q => ?_, fun j ds q => ?_, fun j c fs q => ?_, fun j b q => ?_, r.inj⟩
  · by_cases e : i = j
    · subst e
      rw [List.getElem?_set_self hi] at q
      cases q
    · rw [List.getElem?_set_ne e] at q
      exact r.env j d q
  · by_cases e : i = j
    · subst e
      rw [List.getElem?_set_self hi] at q
      cases q
      exact ⟨a, ws, h1, h2, upd_same, h4, h5, h6⟩
    · rw [List.getElem?_set_ne e] at q
      obtain ⟨b, vs, q1, q2, q3, q4, q5, q6⟩ := r.own j ds q
      have ne : b ≠ a := fun z => e (r.inj i j a h1 (by rw [← z]; exact q1))
      exact ⟨b, vs, q1, q2, by rw [upd_ne ne]; exact q3, q4, q5, q6⟩
  · by_cases e : i = j
    · subst e
      rw [List.getElem?_set_self hi] at q
      cases q
    · rw [List.getElem?_set_ne e] at q
      obtain ⟨b, dx, q1, q2, q3⟩ := r.exc j c fs q
      exact ⟨b, dx, q1, q2, q3.ownw h1⟩
  · by_cases e : j = i
    · subst e
      exact ⟨ys, List.getElem?_set_self hi⟩
    · obtain ⟨ds, z⟩ := r.is j b q
      exact ⟨ds, by rw [List.getElem?_set_ne (Ne.symm e)]; exact z⟩
theorem G.ownE (g : G) {H : Hp} {i : Nat} {a : Addr} {o : HO} (h1 : g.ω i = some a) : ExtS g H g (upd H a o) where
  fr := fun _ _ h => h
  ph := ⟨[], by simp⟩
  new := fun _ h => .inl h
  fnew := fun _ _ h => .inl h
  nom := fun j b h => .inl ⟨j, h⟩
  there := fun b u h => by
    by_cases e : b = a
    · subst e
      exact ⟨o, upd_same⟩
    · exact ⟨u, by rw [upd_ne e]; exact h⟩
  keep := fun b u h _ w _ => by
    rw [upd_ne (fun z => w i (by rw [z]; exact h1))]
    exact h
theorem RS.ownw (r : RS p g σ H s) {i : Nat} {xs ys : List D} (h : s.env[i]? = some (Sl.own xs)) {a : Addr} {vs ws : List V} (h1 : g.ω i = some a) (h2 : σ[i]? = some (some (.ref a))) (h3 : H a = some (.lst vs))
    (h4 : RVs K g.F g.φ ys ws) (h5 : g.F a = none) (h6 : a ∉ g.φ) : RS p g σ (upd H a (.lst ws)) { s with env := s.env.set i (.own ys) } :=
  r.go (s' := { s with env := s.env.set i (.own ys) }) (g.ownE h1) (r.m.ownw h3 h5 h6) (r.f.ownw h h1 h2 h4 h5 h6) (tabs_upd r.tabs fun o q => by
    rw [h3] at q
    cases q
    exact ⟨fun _ z => (nomatch z), fun _ z => (nomatch z)⟩)
/-- an identity list is written -/
theorem RM.refw (m : RM K g H ms) {n : Nat} {a : Addr} {xs ys : List D} {ws : List V} (hn : g.φ[n]? = some a) (hx : ms[n]? = some xs) (h4 : RVs K g.F g.φ ys ws) : RM K g (upd H a (.lst ws)) (ms.set n ys) where
  sub := fun b u q => by
    obtain ⟨vs, z1, z2, z3⟩ := m.mem n a xs hn hx
    have e : b ≠ a := fun e => by rw [e, z3] at q; cases q
    rw [upd_ne e]
    exact m.sub b u q
  mlen := by rw [List.length_set]; exact m.mlen
  mem := fun k b ds q1 q2 => by
    have hlt : n < ms.length := (List.getElem?_eq_some_iff.mp hx).1
    by_cases e : n = k
    · subst e
      rw [hn] at q1
      cases q1
      rw [List.getElem?_set_self hlt] at q2
      cases q2
      obtain ⟨vs, z1, z2, z3⟩ := m.mem n a xs hn hx
      exact ⟨ws, upd_same, h4, z3⟩
    · rw [List.getElem?_set_ne e] at q2
      obtain ⟨vs, z1, z2, z3⟩ := m.mem k b ds q1 q2
      have ne : b ≠ a := fun z => by
        subst z
        obtain ⟨i1, j1⟩ := List.getElem?_eq_some_iff.mp hn
        obtain ⟨i2, j2⟩ := List.getElem?_eq_some_iff.mp q1
        exact e ((List.getElem_inj m.nod).mp (j1.trans j2.symm))
      exact ⟨vs, by rw [upd_ne ne]; exact z1, z2, z3⟩
  nod := m.nod
theorem REx.refw {a : Addr} {o : HO} {fs : List (Str × D)} {dx : Option Addr} (h1 : a ∈ g.φ) (h : REx K g H fs dx) : REx K g (upd H a o) fs dx := by
  cases dx with
  | none => exact h
  | some d =>
    obtain ⟨vs, z1, z2, z3, z4⟩ := h
    exact ⟨vs, by rw [upd_ne (fun z => z3 (by rw [z]; exact h1))]; exact z1, z2, z3, z4⟩
theorem RF.refw (r : RF K xc g σ H env) {a : Addr} {o : HO} (h1 : a ∈ g.φ) : RF K xc g σ (upd H a o) env where
  len := r.len
  env := r.env
  own := fun j ds q => by
    obtain ⟨b, vs, q1, q2, q3, q4, q5, q6⟩ := r.own j ds q
    exact ⟨b, vs, q1, q2, by rw [upd_ne (fun z => q6 (by rw [z]; exact h1))]; exact q3, q4, q5, q6⟩
  exc := fun j c fs q => by
    obtain ⟨b, dx, q1, q2, q3⟩ := r.exc j c fs q
    exact ⟨b, dx, q1, q2, q3.refw h1⟩
  is := r.is
  inj := r.inj
theorem G.refE (g : G) {H : Hp} {a : Addr} {o : HO} (h1 : a ∈ g.φ) : Ext g H g (upd H a o) where
  fr := fun _ _ h => h
  ph := ⟨[], by simp⟩
  new := fun _ h => .inl h
  fnew := fun _ _ h => .inl h
  nom := fun j b h => .inl ⟨j, h⟩
  there := fun b u h => by
    by_cases e : b = a
    · subst e
      exact ⟨o, upd_same⟩
    · exact ⟨u, by rw [upd_ne e]; exact h⟩
  keep := fun b u h w _ => by
    rw [upd_ne (fun z => w (by rw [z]; exact h1))]
    exact h
theorem RS.refw (r : RS p g σ H s) {n : Nat} {a : Addr} {xs ys : List D} {ws : List V} (hn : g.φ[n]? = some a) (hx : s.ms[n]? = some xs) (h4 : RVs K g.F g.φ ys ws) : RS p g σ (upd H a (.lst ws)) { s with ms := s.ms.set n ys } :=
  r.go (s' := { s with ms := s.ms.set n ys }) (g.refE (List.mem_of_getElem? hn)).s (r.m.refw hn hx h4) (r.f.refw (List.mem_of_getElem? hn)) (tabs_upd r.tabs fun o q => by
    obtain ⟨vs, z1, _⟩ := r.m.mem n a xs hn hx
    rw [z1] at q
    cases q
    exact ⟨fun _ z => (nomatch z), fun _ z => (nomatch z)⟩)
/-- a new list becomes an identity list -/
def G.ph (g : G) (a : Addr) : G := { g with φ := g.φ ++ [a] }
theorem RS.newref {g0 : G} {H0 : Hp} {s0 : S} (r0 : RS p g0 σ H0 s0) (r : RS p g σ H s) (e : ExtS g0 H0 g H) {xs : List D} {vs : List V} {a : Addr} (h3 : H a = some (.lst vs)) (h4 : RVs K g.F g.φ xs vs)
    (h5 : g.F a = none) (h6 : a ∉ g.φ) (h7 : ∀ j, g.ω j ≠ some a) (hn : H0 a = none) : RS p (g.ph a) σ H { s with ms := s.ms ++ [xs] } ∧ ExtS g0 H0 (g.ph a) H := by
  have up : ∀ b u, g.F b = some u → (g.ph a).F b = some u := fun _ _ h => h
  have e' : ExtS g0 H0 (g.ph a) H := by
    refine ⟨e.fr, ?_, fun b hb => ?_, e.fnew, e.nom, e.there, e.keep⟩
    · obtain ⟨m, z⟩ := e.ph
      exact ⟨m ++ [a], by show g.φ ++ [a] = _; rw [z, List.append_assoc]⟩
    · rcases List.mem_append.mp (show b ∈ g.φ ++ [a] from hb) with z | z
      · exact e.new b z
      · have : b = a := by simpa using z
        rw [this]
        exact .inr hn
  refine ⟨r0.go (s' := { s with ms := s.ms ++ [xs] }) e' ⟨r.m.sub, ?_, fun n b ds q1 q2 => ?_, ?_⟩ ⟨r.f.len, fun i d q => ?_, fun i ds q => ?_, fun i c fs q => ?_, r.f.is, r.f.inj⟩ r.tabs, e'⟩
  · show (s.ms ++ [xs]).length = (g.φ ++ [a]).length
    rw [List.length_append, List.length_append, r.m.mlen]
    rfl
  · have q1 : (g.φ ++ [a])[n]? = some b := q1
    have q2 : (s.ms ++ [xs])[n]? = some ds := q2
    by_cases hlt : n < g.φ.length
    · rw [List.getElem?_append_left hlt] at q1
      rw [List.getElem?_append_left (by rw [r.m.mlen]; exact hlt)] at q2
      obtain ⟨ws, z1, z2, z3⟩ := r.m.mem n b ds q1 q2
      exact ⟨ws, z1, RVs.up up ⟨[a], rfl⟩ _ _ z2, z3⟩
    · have hl : n < (g.φ ++ [a]).length := (List.getElem?_eq_some_iff.mp q1).1
      have en : n = g.φ.length := by
        rw [List.length_append] at hl
        simp only [List.length_cons, List.length_nil] at hl
        omega
      subst en
      have e1 : a = b := by simpa using q1
      have e2 : xs = ds := by
        rw [← r.m.mlen] at q2
        simpa using q2
      subst e1 e2
      exact ⟨vs, h3, RVs.up up ⟨[a], rfl⟩ _ _ h4, h5⟩
  · show (g.φ ++ [a]).Nodup
    rw [List.nodup_append]
    exact ⟨r.m.nod, by simp, fun x hx y hy z => h6 (by
      have : y = a := by simpa using hy
      rw [← this, ← z]
      exact hx)⟩
  · obtain ⟨v, q1, q2⟩ := r.f.env i d q
    exact ⟨v, q1, RV.up up ⟨[a], rfl⟩ _ _ q2⟩
  · obtain ⟨b, ws, q1, q2, q3, q4, q5, q6⟩ := r.f.own i ds q
    refine ⟨b, ws, q1, q2, q3, RVs.up up ⟨[a], rfl⟩ _ _ q4, q5, fun z => ?_⟩
    rcases List.mem_append.mp (show b ∈ g.φ ++ [a] from z) with z | z
    · exact q6 z
    · have : b = a := by simpa using z
      rw [this] at q1
      exact h7 i q1
  · obtain ⟨b, dx, q1, q2, q3⟩ := r.f.exc i c fs q
    refine ⟨b, dx, q1, q2, ?_⟩
    cases dx with
    | none => exact q3
    | some d =>
      obtain ⟨ws, z1, z2, z3, z4⟩ := q3
      refine ⟨ws, z1, RVs.up up ⟨[a], rfl⟩ _ _ z2, fun z => ?_, z4⟩
      rcases List.mem_append.mp (show d ∈ g.φ ++ [a] from z) with z | z
      · exact z3 z
      · have : d = a := by simpa using z
        rw [this, h3] at z1
        cases z1
end
theorem RVp.ext {K : Kx} {g g' : G} {H H' : Hp} {d : D} {v : V} (e : Ext g H g' H') (r : RVp K g H d v) : RVp K g' H' d v := by
  rcases r with r | ⟨a, vs, ds, h1, h2, h3, h4, h5⟩
  · exact .inl (e.rv r)
  · refine .inr ⟨a, vs, ds, h1, h2, e.keep _ _ h3 h5 (fun _ z => by cases z), e.rvs h4, fun h => ?_⟩
    rcases e.new a h with z | z
    · exact h5 z
    · rw [z] at h3
      cases h3
end Mp

set_option Elab.async false
set_option linter.all false
set_option maxRecDepth 100000
set_option maxHeartbeats 4000000
namespace Mp
open PySem PySem.Spec L2
open PyProof.Rows hiding St

theorem _root_.L2.PE.imp {X : Cx} {e : Expr} {t t' : TE} (h : PE X e t) (w : ∀ σ H Q, t' σ H Q → t σ H Q) : PE X e t' := ⟨fun pins s σ H Q I q => h.run pins s σ H Q I (w σ H Q q)⟩
theorem _root_.L2.PT.imp {X : Cx} {e : Expr} {t t' : TT} (h : PT X e t) (w : ∀ σ H Q, t' σ H Q → t σ H Q) : PT X e t' := ⟨fun pins s σ H Q I q => h.run pins s σ H Q I (w σ H Q q)⟩
theorem _root_.L2.PW.imp {X : Cx} {e : Expr} {t t' : TT} (h : PW X e t) (w : ∀ σ H Q, t' σ H Q → t σ H Q) : PW X e t' := ⟨fun wh pins s σ H Q I q => h.run wh pins s σ H Q I (w σ H Q q)⟩
theorem _root_.L2.PA.imp {X : Cx} {es : List Expr} {t t' : TA} (h : PA X es t) (w : ∀ σ H Q, t' σ H Q → t σ H Q) : PA X es t' := ⟨fun pos pins s σ H Q I q => h.run pos pins s σ H Q I (w σ H Q q)⟩
theorem _root_.L2.PS.imp {X : Cx} {st : Stmt} {t t' : TS} (h : PS X st t) (w : ∀ D σ H, t' D σ H → t D σ H) : PS X st t' := ⟨fun pins s σ H D I q => h.run pins s σ H D I (w D σ H q)⟩
theorem _root_.L2.PSs.imp {X : Cx} {st : List Stmt} {t t' : TS} (h : PSs X st t) (w : ∀ D σ H, t' D σ H → t D σ H) : PSs X st t' := ⟨fun pins s σ H D I q => h.run pins s σ H D I (w D σ H q)⟩

/-! ### two parts in a row -/
section
variable {K : Kx} {p : Pm K} {σ : L2.St} {g : G} {H : Hp} {s : S}
theorem seqP {γ δ : Type} {A' : γ → δ → G → Hp → G → Hp → Prop} (pa : Pre A') {fa : M D} {k : D → M γ} {Q : δ → Hp → Prop} (h : tG p A' (bnd fa k) σ H Q) :
    tP p fa σ H fun v H1 => ∃ g1 s1 x, RS p g1 σ H1 s1 ∧ RVp K g1 H1 x v ∧ Post p σ A' (k x s1) g1 H1 Q := by
  obtain ⟨g, s, r, q⟩ := h
  refine ⟨g, s, r, Post.mono (Post.bnd (A := AP K) pa q) fun v H1 ⟨g1, s1, d, r1, e1, a1, q1⟩ => ⟨g1, s1, d, r1, a1, q1⟩⟩
theorem seqV {γ δ : Type} {A' : γ → δ → G → Hp → G → Hp → Prop} (pa : Pre A') {fa : M D} {k : D → M γ} {Q : δ → Hp → Prop} (h : tG p A' (bnd fa k) σ H Q) :
    tD p fa σ H fun v H1 => ∃ g1 s1 x, RS p g1 σ H1 s1 ∧ RV K g1.F g1.φ x v ∧ Post p σ A' (k x s1) g1 H1 Q := by
  obtain ⟨g, s, r, q⟩ := h
  refine ⟨g, s, r, Post.mono (Post.bnd (A := AV K) pa q) fun v H1 ⟨g1, s1, d, r1, e1, a1, q1⟩ => ⟨g1, s1, d, r1, a1, q1⟩⟩
theorem seqL {γ δ : Type} {A' : γ → δ → G → Hp → G → Hp → Prop} (pa : Pre A') {fa : M (List D)} {k : List D → M γ} {Q : δ → Hp → Prop} (h : tG p A' (bnd fa k) σ H Q) :
    tL p fa σ H fun v H1 => ∃ g1 s1 x, RS p g1 σ H1 s1 ∧ RVs K g1.F g1.φ x v ∧ Post p σ A' (k x s1) g1 H1 Q := by
  obtain ⟨g, s, r, q⟩ := h
  refine ⟨g, s, r, Post.mono (Post.bnd (A := AL K) pa q) fun v H1 ⟨g1, s1, d, r1, e1, a1, q1⟩ => ⟨g1, s1, d, r1, a1, q1⟩⟩
theorem seqB {γ δ : Type} {A' : γ → δ → G → Hp → G → Hp → Prop} (pa : Pre A') {fa : M Bool} {k : Bool → M γ} {Q : δ → Hp → Prop} (h : tG p A' (bnd fa k) σ H Q) :
    tB p fa σ H fun b H1 => ∃ g1 s1, RS p g1 σ H1 s1 ∧ Post p σ A' (k b s1) g1 H1 Q := by
  obtain ⟨g, s, r, q⟩ := h
  refine ⟨g, s, r, Post.mono (Post.bnd (A := AB) pa q) fun v H1 ⟨g1, s1, d, r1, e1, a1, q1⟩ => ?_⟩
  subst a1
  exact ⟨g1, s1, r1, q1⟩
theorem seqPP {γ δ : Type} {A' : γ → δ → G → Hp → G → Hp → Prop} (pa : Pre A') {fa fb : M D} {k : D → D → M γ} {Q : δ → Hp → Prop} (h : tG p A' (bnd fa fun x => bnd fb fun y => k x y) σ H Q) :
    tP p fa σ H fun v H1 => tP p fb σ H1 fun u H2 => ∃ g2 s2 x y, RS p g2 σ H2 s2 ∧ RVp K g2 H2 x v ∧ RVp K g2 H2 y u ∧ Post p σ A' (k x y s2) g2 H2 Q := by
  obtain ⟨g, s, r, q⟩ := h
  refine ⟨g, s, r, Post.mono (Post.bnd (A := AP K) pa q) fun v H1 ⟨g1, s1, x, r1, e1, a1, q1⟩ => ?_⟩
  refine ⟨g1, s1, r1, Post.mono (Post.bnd (A := AP K) pa q1) fun u H2 ⟨g2, s2, y, r2, e2, a2, q2⟩ => ⟨g2, s2, x, y, r2, ?_, a2, q2⟩⟩
  exact RVp.ext e2 a1
end
/-! ### what a value looks like -/
section
variable {K : Kx} {p : Pm K} {σ : L2.St} {g : G} {H : Hp} {s : S} {v : V}
theorem RVp.int {i : Int} (h : RVp K g H (.int i) v) : v = .int i := by
  rcases h with h | ⟨_, _, _, e, _⟩
  · cases h; rfl
  · cases e
theorem RVp.bl {i : Bool} (h : RVp K g H (.bl i) v) : v = .bl i := by
  rcases h with h | ⟨_, _, _, e, _⟩
  · cases h; rfl
  · cases e
theorem RVp.str {i : Str} (h : RVp K g H (.str i) v) : v = .str i := by
  rcases h with h | ⟨_, _, _, e, _⟩
  · cases h; rfl
  · cases e
theorem RVp.non (h : RVp K g H .non v) : v = .non := by
  rcases h with h | ⟨_, _, _, e, _⟩
  · cases h; rfl
  · cases e
theorem RVp.tup {ds : List D} (r : RM K g H s.ms) (h : RVp K g H (.tup ds) v) : ∃ a vs, v = .ref a ∧ SqT K.K H a vs ∧ RVs K g.F g.φ ds vs := by
  rcases h with h | ⟨_, _, _, e, _⟩
  · cases h with
    | tup h1 h2 => exact ⟨_, _, rfl, SqT.up r.sub h1, h2⟩
  · cases e
theorem RVp.lst {ds : List D} (r : RM K g H s.ms) (h : RVp K g H (.lst ds) v) : ∃ a vs, v = .ref a ∧ H a = some (.lst vs) ∧ RVs K g.F g.φ ds vs := by
  rcases h with h | ⟨a, vs, ds', e, h2, h3, h4, h5⟩
  · cases h with
    | lst h1 h2 => exact ⟨_, _, rfl, r.sub _ _ h1, h2⟩
  · cases e
    exact ⟨a, vs, h2, h3, h4⟩
theorem RVp.scr {ds : List D} (r : RM K g H s.ms) (h : RVp K g H (.scr ds) v) : ∃ a vs, v = .ref a ∧ SqL K.K H a vs ∧ RVs K g.F g.φ ds vs := by
  rcases h with h | ⟨_, _, _, e, _⟩
  · cases h with
    | scr h1 h2 => exact ⟨_, _, rfl, SqL.up r.sub h1, h2⟩
  · cases e
theorem RVp.dct (r : RM K g H s.ms) (h : RVp K g H .dct v) : ∃ a, v = .ref a ∧ H a = some (.dK []) := by
  rcases h with h | ⟨_, _, _, e, _⟩
  · cases h with
    | dct h1 => exact ⟨_, rfl, r.sub _ _ h1⟩
  · cases e
theorem RVp.ref {n : Nat} (r : RM K g H s.ms) (h : RVp K g H (.ref n) v) : ∃ a ds vs, v = .ref a ∧ g.φ[n]? = some a ∧ s.ms[n]? = some ds ∧ H a = some (.lst vs) ∧ RVs K g.F g.φ ds vs := by
  rcases h with h | ⟨_, _, _, e, _⟩
  · cases h with
    | ref h1 =>
      have hlt : n < s.ms.length := by
        rw [r.mlen]
        exact (List.getElem?_eq_some_iff.mp h1).1
      obtain ⟨vs, z1, z2, z3⟩ := r.mem n _ _ h1 (List.getElem?_eq_getElem hlt)
      exact ⟨_, _, vs, rfl, h1, List.getElem?_eq_getElem hlt, z1, z2⟩
  · cases e
/-- as the kit's data -/
def D.py : D → Option PyData
  | .non => some .none
  | .bl b => some (.bool b)
  | .int i => some (.int i)
  | .str x => some (.str x)
  | .tup xs => (pys xs).map .tuple
  | .lst xs => (pys xs).map .list
  | _ => none
where pys : List D → Option (List PyData)
  | [] => some []
  | d :: ds => match d.py, pys ds with
    | some a, some b => some (a :: b)
    | _, _ => none
mutual
theorem RV.dp {F : Hp} {φ : List Addr} (sub : ∀ a o, F a = some o → H a = some o) : ∀ (d : D) (v : V) (y : PyData), RV K F φ d v → d.py = some y → Dp K.K H v y
  | .non, _, _, .non, e => by
    cases e
    exact .non
  | .bl b, _, _, .bl _, e => by
    cases e
    exact .bl b
  | .int i, _, _, .int _, e => by
    cases e
    exact .int i
  | .str x, _, _, .str _, e => by
    cases e
    exact .str x
  | .tup ds, _, y, .tup h1 h2, e => by
    unfold D.py at e
    cases z : D.py.pys ds with
    | none => rw [z] at e; cases e
    | some ys =>
      rw [z] at e
      cases e
      exact .tup (SqT.up sub h1) (RVs.dp sub ds _ ys h2 z)
  | .lst ds, _, y, .lst h1 h2, e => by
    unfold D.py at e
    cases z : D.py.pys ds with
    | none => rw [z] at e; cases e
    | some ys =>
      rw [z] at e
      cases e
      exact .lst (SqL.of (sub _ _ h1)) (RVs.dp sub ds _ ys h2 z)
  | .scr _, _, _, _, e => by cases e
  | .dct, _, _, _, e => by cases e
  | .ref _, _, _, _, e => by cases e
  | .obj _, _, _, _, e => by cases e
  | .clo _ _, _, _, _, e => by cases e
theorem RVs.dp {F : Hp} {φ : List Addr} (sub : ∀ a o, F a = some o → H a = some o) : ∀ (ds : List D) (vs : List V) (ys : List PyData), RVs K F φ ds vs → D.py.pys ds = some ys → DpAll K.K H vs ys
  | [], _, _, .nil, e => by
    cases e
    exact .nil
  | d :: ds, _, ys, .cons r q, e => by
    unfold D.py.pys at e
    cases z : d.py with
    | none => rw [z] at e; cases e
    | some a =>
      cases z2 : D.py.pys ds with
      | none => rw [z, z2] at e; cases e
      | some b =>
        rw [z, z2] at e
        cases e
        exact .cons (RV.dp sub d _ a r z) (RVs.dp sub ds _ b q z2)
end
theorem RVp.dp {d : D} {y : PyData} (r : RM K g H s.ms) (h : RVp K g H d v) (e : d.py = some y) : Dp K.K H v y := by
  rcases h with h | ⟨a, vs, ds, e1, e2, h3, h4, h5⟩
  · exact RV.dp r.sub d v y h e
  · subst e1 e2
    unfold D.py at e
    cases z : D.py.pys ds with
    | none => rw [z] at e; cases e
    | some ys =>
      rw [z] at e
      cases e
      exact .lst (SqL.of h3) (RVs.dp r.sub ds _ ys h4 z)
end

/-! ### names, constants -/
section
variable {X : Cx} {lt : Nat → LamI} {p : Pm ⟨X.K, lt⟩} {e a b c : Expr} {pos : Pos} {fa fb fc : M D}
theorem p_of {f : M D} (h : PE X e (tD p f)) : PE X e (tP p f) := h.imp fun σ H Q ⟨g, s, r, q⟩ => ⟨g, s, r, by
  cases z : f s with
  | ok d s' =>
    rw [z] at q
    exact fun v H' g' a b c => q v H' g' a b (.inl c)
  | err c fs s' =>
    rw [z] at q
    exact q
  | stuck =>
    rw [z] at q
    exact q⟩
/-- a new list is frozen -/
def frzd (f : M (List D)) : M D := bnd f fun xs => ret (.lst xs)
theorem d_frz {f : M (List D)} (h : PE X e (tF p f)) : PE X e (tD p (frzd f)) := h.imp fun σ H Q ⟨g, s, r, q⟩ => ⟨g, s, r, by
  unfold frzd bnd at q
  cases z : f s with
  | ok d s' =>
    rw [z] at q
    intro v H' g' r' ex ⟨a, vs, ev, rv, ha, hf, hp, ho, hn⟩
    subst ev
    have q : ∀ v H' g', RS p g' σ H' s' → Ext g H g' H' → RV ⟨X.K, lt⟩ g'.F g'.φ (.lst d) v → Q v H' := q
    exact q _ H' (g'.fz a vs) (r.fz r' ex hn ha hf hp ho) (ex.fz hf hn) (.lst upd_same (RVs.up (fz_up hf) ⟨[], by simp [G.fz]⟩ _ _ rv))
  | err c fs s' =>
    rw [z] at q
    exact q
  | stuck =>
    rw [z] at q
    exact q⟩
theorem d_var {i : Nat} {x : Str} (hN : X.N[i]? = some x) (hv : Vis X.env.scope x) (hd : (x == ("__debug__" : Str)) = false := by decide) (hcd : (x == ("__classdict__" : Str)) = false := by decide) :
    PE X (.Name x pos) (tD p (getv i)) := (pe_var hN hv hd hcd).imp fun σ H Q ⟨g, s, r, q⟩ => by
  unfold getv at q
  cases h : s.env[i]? with
  | none => rw [h] at q; exact q.elim
  | some sl =>
    rw [h] at q
    cases sl with
    | un => exact q.elim
    | exc c fs => exact q.elim
    | val d =>
      obtain ⟨v, h1, h2⟩ := r.f.env i d h
      exact ⟨v, h1, q v H g r (.refl g H) h2⟩
    | own xs =>
      obtain ⟨a, vs, h1, h2, h3, h4, h5, h6⟩ := r.f.own i xs h
      exact ⟨_, h2, q _ H (g.frz i a vs) (r.frz h h1 h2 h3 h4 h5 h6) (g.frzE H h1 h5) (.lst upd_same (RVs.up (frz_up h5) ⟨[], by simp [G.frz]⟩ _ _ h4))⟩
theorem p_var {i : Nat} {x : Str} (hN : X.N[i]? = some x) (hv : Vis X.env.scope x) (hd : (x == ("__debug__" : Str)) = false := by decide) (hcd : (x == ("__classdict__" : Str)) = false := by decide) :
    PE X (.Name x pos) (tP p (peekv i)) := (pe_var hN hv hd hcd).imp fun σ H Q ⟨g, s, r, q⟩ => by
  unfold peekv at q
  cases h : s.env[i]? with
  | none => rw [h] at q; exact q.elim
  | some sl =>
    rw [h] at q
    cases sl with
    | un => exact q.elim
    | exc c fs => exact q.elim
    | val d =>
      obtain ⟨v, h1, h2⟩ := r.f.env i d h
      exact ⟨v, h1, q v H g r (.refl g H) (.inl h2)⟩
    | own xs =>
      obtain ⟨a, vs, h1, h2, h3, h4, h5, h6⟩ := r.f.own i xs h
      exact ⟨_, h2, q _ H g r (.refl g H) (.inr ⟨a, vs, xs, rfl, rfl, h3, h4, h6⟩)⟩
theorem d_c {v : V} {d : D} (h : PE X e (tC v)) (rv : ∀ F φ, RV ⟨X.K, lt⟩ F φ d v) : PE X e (tD p (ret d)) := h.imp fun σ H Q ⟨g, s, r, q⟩ => q v H g r (.refl g H) (rv _ _)
theorem d_int {i j} : PE X (.Constant (.int i) j pos) (tD p (ret (.int i))) := d_c pe_int fun _ _ => .int i
theorem d_bl {b j} : PE X (.Constant (.bool b) j pos) (tD p (ret (.bl b))) := d_c pe_bl fun _ _ => .bl b
theorem d_non {j} : PE X (.Constant .none j pos) (tD p (ret .non)) := d_c pe_non fun _ _ => .non
theorem d_str {x j} : PE X (.Constant (.str x) j pos) (tD p (ret (.str x))) := d_c pe_str fun _ _ => .str x
/-- a module's constant, def, class -/
theorem d_glob {x : Str} {v : V} {d : D} {u : Value} (hg : Gl X x) (hm : X.mg x = some u) (r : RelV v u) (rv : ∀ F φ, RV ⟨X.K, lt⟩ F φ d v) (hd : (x == ("__debug__" : Str)) = false := by decide) : PE X (.Name x pos) (tD p (ret d)) := d_c (pe_glob hg hm r hd) rv
theorem d_def {x : Str} {f : Addr} (hg : Gl X x) (hm : X.mg x = some (.ref f)) (hd : (x == ("__debug__" : Str)) = false := by decide) : PE X (.Name x pos) (tD p (ret (.obj f))) := d_glob hg hm (v := .ref f) rfl (fun _ _ => .obj) hd
/-! ### argument lists, displays -/
def argN : M (List D) := ret []
def argC (f : M D) (r : M (List D)) : M (List D) := bnd f fun x => bnd r fun xs => ret (x :: xs)
theorem a_nil : PA X [] (tL p argN) := pa_nil.imp fun σ H Q ⟨g, s, r, q⟩ => q [] H g r (.refl g H) .nil
theorem a_cons {es : List Expr} {f : M D} {r : M (List D)} (he : PE X e (tD p f)) (ha : PA X es (tL p r)) (hs : starEach (e :: es) X.env = (false, eval e X.env) :: starEach es X.env := by rfl) :
    PA X (e :: es) (tL p (argC f r)) := (pa_cons he ha hs).imp fun σ H Q ⟨g, s, rs, q⟩ => by
  refine ⟨g, s, rs, Post.mono (Post.bnd (A := AV ⟨X.K, lt⟩) preL q) fun v H1 ⟨g1, s1, d, r1, e1, a1, q1⟩ => ?_⟩
  refine ⟨g1, s1, r1, Post.mono (Post.bnd (A := AL ⟨X.K, lt⟩) preL q1) fun vs H2 ⟨g2, s2, ds, r2, e2, a2, q2⟩ => ?_⟩
  exact q2 (v :: vs) H2 g2 r2 (.refl _ _) (.cons (e2.rv a1) a2)
def mkTup (xs : List D) : M D := fun s => if xs.length ≤ 100000 then .ok (.tup xs) s else .stuck
def mkLst (xs : List D) : M (List D) := fun s => if xs.length ≤ 100000 then .ok xs s else .stuck
theorem szL {n : Nat} (h : n ≤ 100000) : n ≤ sizeLine := Nat.le_trans h (by decide)
theorem d_tup {es : List Expr} {f : M (List D)} {x1} (h : PA X es (tL p f)) : PE X (.Tuple es x1 pos) (tD p (bnd f mkTup)) := (pe_tup h).imp fun σ H Q q => by
  obtain ⟨g, s, r, q⟩ := seqL preV q
  refine ⟨g, s, r, Post.mono q fun vs H1 ⟨g1, s1, xs, r1, a1, q1⟩ => ?_⟩
  unfold mkTup at q1
  by_cases hl : xs.length ≤ 100000
  · rw [if_pos hl] at q1
    refine ⟨by rw [← a1.length]; exact szL hl, fun q hq => q1 _ _ _ (r1.add hq _) (r1.addE hq _) (.tup (.inl (.inl G.add_same)) (RVs.up (r1.m.addUp hq _) ⟨[], by simp [G.add]⟩ _ _ a1))⟩
  · rw [if_neg hl] at q1
    exact q1.elim
/-- a new list that nothing else knows -/
theorem F_new {K : Kx} {p : Pm K} {σ : L2.St} {g : G} {H : Hp} {s : S} {xs : List D} {vs : List V} {Q : VK} (r : RS p g σ H s) (rv : RVs K g.F g.φ xs vs) (h : Post p σ (AF K) (.ok xs s) g H Q) {q : Addr} (hq : H q = none) : Q (.ref q) (upd H q (.lst vs)) := by
  have hF : g.F q = none := by
    cases z : g.F q with
    | none => rfl
    | some o =>
      have := r.m.sub q o z
      rw [hq] at this
      cases this
  have hφ : q ∉ g.φ := fun z => by
    obtain ⟨n, hn⟩ := List.mem_iff_getElem?.mp z
    have hlt : n < s.ms.length := by
      rw [r.m.mlen]
      exact (List.getElem?_eq_some_iff.mp hn).1
    obtain ⟨ws, z1, _⟩ := r.m.mem n q _ hn (List.getElem?_eq_getElem hlt)
    rw [hq] at z1
    cases z1
  have hω : ∀ j, g.ω j ≠ some q := fun j z => by
    obtain ⟨ds, hd⟩ := r.f.is j q z
    obtain ⟨a, ws, z1, z2, z3, _⟩ := r.f.own j ds hd
    rw [z] at z1
    cases z1
    rw [hq] at z3
    cases z3
  have E : Ext g H g (upd H q (.lst vs)) := ⟨fun _ _ h => h, ⟨[], by simp⟩, fun _ h => .inl h, fun _ _ h => .inl h, fun i a h => .inl ⟨i, h⟩, fun b u h => by
    by_cases e : b = q
    · subst e
      exact ⟨_, upd_same⟩
    · exact ⟨u, by rw [upd_ne e]; exact h⟩, fun b u h _ _ => by rw [upd_ne (ne_of_none h hq)]; exact h⟩
  have rex : ∀ {fs dx}, REx K g H fs dx → REx K g (upd H q (.lst vs)) fs dx := fun {fs dx} h => by
    cases dx with
    | none => exact h
    | some d =>
      obtain ⟨ws, z1, z2, z3, z4⟩ := h
      exact ⟨ws, by rw [upd_ne (ne_of_none z1 hq)]; exact z1, z2, z3, z4⟩
  have r' : RS p g σ (upd H q (.lst vs)) s := r.go E.s
    ⟨fun a o z => by rw [upd_ne (fun e => by rw [e, hF] at z; cases z)]; exact r.m.sub a o z, r.m.mlen, fun n a ds z1 z2 => by
      obtain ⟨ws, h1, h2, h3⟩ := r.m.mem n a ds z1 z2
      exact ⟨ws, by rw [upd_ne (ne_of_none h1 hq)]; exact h1, h2, h3⟩, r.m.nod⟩
    ⟨r.f.len, r.f.env, fun i ds z => by
      obtain ⟨a, ws, h1, h2, h3, h4⟩ := r.f.own i ds z
      exact ⟨a, ws, h1, h2, by rw [upd_ne (ne_of_none h3 hq)]; exact h3, h4⟩, fun i c fs z => by
      obtain ⟨a, dx, h1, h2, h3⟩ := r.f.exc i c fs z
      exact ⟨a, dx, h1, h2, rex h3⟩, r.f.is, r.f.inj⟩
    (r.tabs.ext fun b u z => by rw [upd_ne (ne_of_none z hq)]; exact z)
  exact h _ _ g r' E ⟨q, vs, rfl, rv, upd_same, hF, hφ, hω, hq⟩
theorem f_lst {es : List Expr} {f : M (List D)} (h : PA X es (tL p f)) : PE X (.List es pos) (tF p (bnd f mkLst)) := (pe_lst h).imp fun σ H Q q => by
  obtain ⟨g, s, r, q⟩ := seqL preF q
  refine ⟨g, s, r, Post.mono q fun vs H1 ⟨g1, s1, xs, r1, a1, q1⟩ => ?_⟩
  unfold mkLst at q1
  by_cases hl : xs.length ≤ 100000
  · rw [if_pos hl] at q1
    exact ⟨by rw [← a1.length]; exact szL hl, fun q hq => F_new r1 a1 q1 hq⟩
  · rw [if_neg hl] at q1
    exact q1.elim
end
end Mp

set_option Elab.async false
set_option linter.all false
set_option maxRecDepth 100000
set_option maxHeartbeats 4000000
namespace Mp
open PySem PySem.Spec L2
open PyProof.Rows hiding St

abbrev O1 := D → S → Option D
abbrev O2 := D → D → S → Option D
def ap1 (o : O1) (x : D) : M D := fun s => match o x s with
  | some d => .ok d s
  | none => .stuck
def ap2 (o : O2) (x y : D) : M D := fun s => match o x y s with
  | some d => .ok d s
  | none => .stuck
def op1 (o : O1) (fa : M D) : M D := bnd fa fun x => ap1 o x
def op2 (o : O2) (fa fb : M D) : M D := bnd fa fun x => bnd fb fun y => ap2 o x y
/-- what follows a value that is told -/
def Fin {K : Kx} (p : Pm K) (σ : L2.St) (g : G) (H : Hp) (s : S) (d : D) (Q : VK) : Prop := ∀ w H' g', RS p g' σ H' s → Ext g H g' H' → RV K g'.F g'.φ d w → Q w H'
/-- a two-place operation, by values -/
def rO2 {K : Kx} (p : Pm K) (o : O2) : R2 := fun v u H Q => ∃ σ g s x y d, RS p g σ H s ∧ RVp K g H x v ∧ RVp K g H y u ∧ o x y s = some d ∧ Fin p σ g H s d Q
def rO1 {K : Kx} (p : Pm K) (o : O1) : V → Hp → VK → Prop := fun v H Q => ∃ σ g s x d, RS p g σ H s ∧ RVp K g H x v ∧ o x s = some d ∧ Fin p σ g H s d Q
section
variable {K : Kx} {p : Pm K} {σ : L2.St} {g : G} {H : Hp} {s : S} {Q : VK}
theorem Fin.now {d : D} {v : V} (h : Fin p σ g H s d Q) (r : RS p g σ H s) (rv : RV K g.F g.φ d v) : Q v H := h v H g r (.refl g H) rv
theorem Fin.tup {ds : List D} {vs : List V} (h : Fin p σ g H s (.tup ds) Q) (r : RS p g σ H s) (rv : RVs K g.F g.φ ds vs) {q : Addr} (hq : H q = none) : Q (.ref q) (upd H q (.tup vs)) :=
  h _ _ _ (r.add hq _) (r.addE hq _) (.tup (.inl (.inl G.add_same)) (RVs.up (r.m.addUp hq _) ⟨[], by simp [G.add]⟩ _ _ rv))
theorem ap1_fin {o : O1} {x : D} (h : Post p σ (AV K) (ap1 o x s) g H Q) : ∃ d, o x s = some d ∧ Fin p σ g H s d Q := by
  unfold ap1 at h
  cases z : o x s with
  | none => rw [z] at h; exact h.elim
  | some d =>
    rw [z] at h
    exact ⟨d, rfl, h⟩
theorem ap2_fin {o : O2} {x y : D} (h : Post p σ (AV K) (ap2 o x y s) g H Q) : ∃ d, o x y s = some d ∧ Fin p σ g H s d Q := by
  unfold ap2 at h
  cases z : o x y s with
  | none => rw [z] at h; exact h.elim
  | some d =>
    rw [z] at h
    exact ⟨d, rfl, h⟩
theorem use2 {o : O2} {fa fb : M D} (h : tD p (op2 o fa fb) σ H Q) : tOp (rO2 p o) (tP p fa) (tP p fb) σ H Q := by
  obtain ⟨g, s, r, q⟩ := seqPP preV h
  refine ⟨g, s, r, Post.mono q fun v H1 ⟨g1, s1, r1, q1⟩ => ⟨g1, s1, r1, Post.mono q1 fun u H2 ⟨g2, s2, x, y, r2, a1, a2, q2⟩ => ?_⟩⟩
  obtain ⟨d, e, f⟩ := ap2_fin q2
  exact ⟨σ, g2, s2, x, y, d, r2, a1, a2, e, f⟩
theorem use1 {o : O1} {fa : M D} (h : tD p (op1 o fa) σ H Q) : tUn (rO1 p o) (tP p fa) σ H Q := by
  obtain ⟨g, s, r, q⟩ := seqP preV h
  refine ⟨g, s, r, Post.mono q fun v H1 ⟨g1, s1, x, r1, a1, q1⟩ => ?_⟩
  obtain ⟨d, e, f⟩ := ap1_fin q1
  exact ⟨σ, g1, s1, x, d, r1, a1, e, f⟩
end
section
variable {X : Cx} {lt : Nat → LamI} {p : Pm ⟨X.K, lt⟩} {e a b c : Expr} {pos : Pos} {fa fb fc : M D}
theorem d_bin {op : Operator} {o : O2} (ho : OpR X (binaryOp op) (rO2 p o)) (ha : PE X a (tP p fa)) (hb : PE X b (tP p fb)) : PE X (.BinOp a op b pos) (tD p (op2 o fa fb)) := (pe_op ho ha hb).imp fun _ _ _ q => use2 q
theorem d_un {op : UnaryOp} {o : O1} (ho : UnR X (unaryOp op) (rO1 p o)) (ha : PE X a (tP p fa)) : PE X (.UnaryOp op a pos) (tD p (op1 o fa)) := (pe_un ho ha).imp fun _ _ _ q => use1 q
theorem d_cmp {op : CmpOp} {o : O2} (ho : OpR X (compareOp op) (rO2 p o)) (ha : PE X a (tP p fa)) (hb : PE X b (tP p fb)) (hm : behindInMarks op b = false) : PE X (.Compare a [op] [b] pos) (tD p (op2 o fa fb)) := (pe_cmpR ho ha hb hm).imp fun _ _ _ q => use2 q
/-- a truth value as a value -/
def asB (f : M D) : M Bool := bnd f fun x => lift (match x with | .bl b => some b | _ => none)
def ofB (f : M Bool) : M D := bnd f fun b => ret (.bl b)
theorem useB {K : Kx} {p : Pm K} {f : M D} {σ : L2.St} {H : Hp} {Q : Bool → Hp → Prop} (h : tB p (asB f) σ H Q) : tD p f σ H fun x H' => ∃ k, x = .bl k ∧ Q k H' := by
  obtain ⟨g, s, r, q⟩ := seqV preB h
  refine ⟨g, s, r, Post.mono q fun v H1 ⟨g1, s1, x, r1, a1, q1⟩ => ?_⟩
  unfold lift at q1
  cases x with
  | bl b =>
    cases a1
    exact ⟨b, rfl, q1 b H1 g1 r1 (.refl _ _) rfl⟩
  | _ => exact q1.elim
theorem b_cmp {op : CmpOp} {o : O2} (ho : OpR X (compareOp op) (rO2 p o)) (ha : PE X a (tP p fa)) (hb : PE X b (tP p fb)) (hm : behindInMarks op b = false) : PT X (.Compare a [op] [b] pos) (tB p (asB (op2 o fa fb))) :=
  (pt_cmpR ho ha hb hm).imp fun _ _ _ q => use2 (useB q)
/-- a op1 b op2 c -/
def chain2 (o o' : O2) (fa fb fc : M D) : M D := bnd fa fun x => bnd fb fun y => bnd (ap2 o x y) fun z => match z with
  | .bl true => bnd fc fun w => ap2 o' y w
  | .bl false => ret (.bl false)
  | _ => stk
theorem ap2_ok {o : O2} {x y d : D} {s : S} (h : o x y s = some d) : ap2 o x y s = .ok d s := by unfold ap2; rw [h]
theorem use3 {K : Kx} {p : Pm K} {o o' : O2} {σ : L2.St} {H : Hp} {Q : VK} (h : tD p (chain2 o o' fa fb fc) σ H Q) : tChain (rO2 p o) (rO2 p o') (tP p fa) (tP p fb) (tP p fc) σ H Q := by
  obtain ⟨g, s, r, q⟩ := seqPP preV h
  refine ⟨g, s, r, Post.mono q fun v H1 ⟨g1, s1, r1, q1⟩ => ⟨g1, s1, r1, Post.mono q1 fun u H2 ⟨g2, s2, x, y, r2, a1, a2, q2⟩ => ?_⟩⟩
  unfold bnd at q2
  cases z : o x y s2 with
  | none =>
    have e : ap2 o x y s2 = .stuck := by unfold ap2; rw [z]
    rw [e] at q2
    exact q2.elim
  | some d =>
    rw [ap2_ok z] at q2
    refine ⟨σ, g2, s2, x, y, d, r2, a1, a2, z, fun w H3 g3 r3 e3 rv => ?_⟩
    cases d with
    | bl k =>
      cases rv
      refine ⟨k, rfl, ?_⟩
      cases k with
      | false =>
        rw [if_neg Bool.false_ne_true]
        exact Post.pre preV e3 q2 (.bl false) H3 g3 r3 (.refl _ _) (.bl false)
      | true =>
        rw [if_pos rfl]
        have q3 : Post p σ (AV K) (Mp.bnd fc (fun w => ap2 o' y w) s2) g3 H3 Q := Post.pre preV e3 q2
        refine ⟨g3, s2, r3, Post.mono (Post.bnd (A := AP K) preV q3) fun w H4 ⟨g4, s4, ww, r4, e4, a4, q4⟩ => ?_⟩
        obtain ⟨d', z', f⟩ := ap2_fin q4
        exact ⟨σ, g4, s4, y, ww, d', r4, (a2.ext e3).ext e4, a4, z', f⟩
    | _ => exact q2.elim
theorem d_chain {op op' : CmpOp} {o o' : O2} (ho : OpR X (compareOp op) (rO2 p o)) (ho' : OpR X (compareOp op') (rO2 p o')) (ha : PE X a (tP p fa)) (hb : PE X b (tP p fb)) (hc : PE X c (tP p fc))
    (hm : lastMarks [op, op'] [b, c] = false := by with_unfolding_all rfl) : PE X (.Compare a [op, op'] [b, c] pos) (tD p (chain2 o o' fa fb fc)) := (pe_chain ho ho' ha hb hc hm).imp fun _ _ _ q => use3 q
theorem b_chain {op op' : CmpOp} {o o' : O2} (ho : OpR X (compareOp op) (rO2 p o)) (ho' : OpR X (compareOp op') (rO2 p o')) (ha : PE X a (tP p fa)) (hb : PE X b (tP p fb)) (hc : PE X c (tP p fc))
    (hm : lastMarks [op, op'] [b, c] = false := by with_unfolding_all rfl) : PT X (.Compare a [op, op'] [b, c] pos) (tB p (asB (chain2 o o' fa fb fc))) := (pt_chain ho ho' ha hb hc hm).imp fun _ _ _ q => use3 (useB q)

/-! ### int arithmetic -/
def mulOk (i j : Int) : Bool := decide (i.natAbs.log2 + j.natAbs.log2 < 1000000)
def divOk (j : Int) : Bool := decide (j ≠ 0) && decide (j.natAbs.log2 < 9000)
def powOk (i j : Int) : Bool := decide (0 ≤ j) && decide ((i.natAbs.log2 + 1) * j.toNat ≤ 1000000)
def addO : O2 := fun x y _ => match x, y with
  | .int i, .int j => some (.int (i + j))
  | .str x, .str y => if x.length + y.length ≤ 100000 then some (.str (x ++ y)) else none
  | .tup xs, .tup ys => if xs.length + ys.length ≤ 100000 then some (.tup (xs ++ ys)) else none
  | _, _ => none
def subO : O2 := fun x y _ => match x, y with
  | .int i, .int j => some (.int (i - j))
  | _, _ => none
def mulO : O2 := fun x y _ => match x, y with
  | .int i, .int j => if mulOk i j then some (.int (i * j)) else none
  | .tup xs, .int k => if 2 ≤ k ∧ k ≤ 1000 ∧ xs.length ≤ 1000 ∧ xs ≠ [] then some (.tup (List.replicate k.toNat xs).flatten) else none
  | _, _ => none
def fdivO : O2 := fun x y _ => match x, y with
  | .int i, .int j => if divOk j then some (.int (i.fdiv j)) else none
  | _, _ => none
def modO : O2 := fun x y _ => match x, y with
  | .int i, .int j => if j ≠ 0 then some (.int (i.fmod j)) else none
  | _, _ => none
def powO : O2 := fun x y _ => match x, y with
  | .int i, .int j => if powOk i j then some (.int (i ^ j.toNat)) else none
  | _, _ => none
def negO : O1 := fun x _ => match x with
  | .int i => some (.int (-i))
  | _ => none
theorem bits_le (x : Int) : Builtin.Int.intBits x ≤ x.natAbs.log2 + 1 := by
  unfold Builtin.Int.intBits
  split <;> omega
theorem mulOk.ok {i j : Int} (h : mulOk i j = true) : CMulW i j := (of_decide_eq_true (p := i.natAbs.log2 + j.natAbs.log2 < 1000000) h)
theorem o_add : OpR X (binaryOp .Add) (rO2 p addO) := by
  intro pins s σ H x y v u Q I rx ry h
  obtain ⟨σ', g, s', d, e, z, r, a1, a2, ho, f⟩ := h
  unfold addO at ho
  split at ho
  · cases ho
    cases a1.int
    cases a2.int
    exact op_add pins s σ H _ _ v u Q I rx ry ⟨_, _, rfl, rfl, f.now r (.int _)⟩
  · split at ho
    · cases ho
      cases a1.str
      cases a2.str
      exact op_add_str pins s σ H _ _ v u Q I rx ry ⟨_, _, rfl, rfl, szL (by assumption), f.now r (.str _)⟩
    · cases ho
  · split at ho
    · cases ho
      obtain ⟨a, vs, rfl, h1, h2⟩ := a1.tup r.m
      obtain ⟨b, ws, rfl, h3, h4⟩ := a2.tup r.m
      have l1 := h2.length
      have l2 := h4.length
      have back : ∀ {ds : List D} {q : Addr} {us : List V}, RVp ⟨X.K, lt⟩ g H (.tup ds) (.ref q) → RV ⟨X.K, lt⟩ g.F g.φ (.tup ds) (.ref q) := fun {ds q us} h => by
        rcases h with h | ⟨_, _, _, e, _⟩
        · exact h
        · cases e
      refine op_catA pins s σ H _ _ v u Q I rx ry ⟨a, b, vs, ws, rfl, rfl, h1, h3, szL (by omega), fun e => ?_, fun e1 e2 => ?_, fun _ _ q hq => f.tup r (h2.append h4) hq⟩
      · subst e
        cases h2
        exact f.now r (back (us := ws) a2)
      · subst e2
        cases h4
        rw [List.append_nil] at f
        exact f.now r (back (us := vs) a1)
    · cases ho
  · cases ho
theorem o_sub : OpR X (binaryOp .Sub) (rO2 p subO) := by
  intro pins s σ H x y v u Q I rx ry h
  obtain ⟨σ', g, s', d, e, z, r, a1, a2, ho, f⟩ := h
  unfold subO at ho
  split at ho
  · cases ho
    cases a1.int
    cases a2.int
    exact op_sub pins s σ H _ _ v u Q I rx ry ⟨_, _, rfl, rfl, f.now r (.int _)⟩
  · cases ho
theorem RVs.rep {K : Kx} {F : Hp} {φ : List Addr} {xs : List D} {vs : List V} (h : RVs K F φ xs vs) : ∀ n : Nat, RVs K F φ (List.replicate n xs).flatten (List.replicate n vs).flatten
  | 0 => .nil
  | n + 1 => by
    rw [List.replicate_succ, List.replicate_succ, List.flatten_cons, List.flatten_cons]
    exact h.append (RVs.rep h n)
theorem o_mul : OpR X (binaryOp .Mult) (rO2 p mulO) := by
  intro pins s σ H x y v u Q I rx ry h
  obtain ⟨σ', g, s', d, e, z, r, a1, a2, ho, f⟩ := h
  unfold mulO at ho
  split at ho
  · split at ho
    · cases ho
      cases a1.int
      cases a2.int
      exact op_mulW pins s σ H _ _ v u Q I rx ry ⟨_, _, rfl, rfl, mulOk.ok (by assumption), f.now r (.int _)⟩
    · cases ho
  · split at ho
    · rename_i hc
      cases ho
      obtain ⟨a, vs, rfl, h1, h2⟩ := a1.tup r.m
      cases a2.int
      have l1 := h2.length
      refine op_repT pins s σ H _ _ v u Q I rx ry ⟨a, _, vs, rfl, rfl, h1, fun e => hc.2.2.2 ?_, hc.1, hc.2.1, by omega, fun q hq => f.tup r (h2.rep _) hq⟩
      rw [e] at l1
      exact List.eq_nil_of_length_eq_zero l1
    · cases ho
  · cases ho
theorem o_fdiv : OpR X (binaryOp .FloorDiv) (rO2 p fdivO) := by
  intro pins s σ H x y v u Q I rx ry h
  obtain ⟨σ', g, s', d, e, z, r, a1, a2, ho, f⟩ := h
  unfold fdivO at ho
  split at ho
  · split at ho
    · rename_i hc
      cases ho
      cases a1.int
      cases a2.int
      obtain ⟨t, rfl⟩ := rx
      obtain ⟨t', rfl⟩ := ry
      have hc' := Bool.and_eq_true_iff.mp hc
      exact floordiv_int (of_decide_eq_true hc'.1) ⟨.int _, H, I.tok _, ⟨_, rfl⟩, f.now r (.int _)⟩ (.inl (PyProof.noPylong_of_log2 (of_decide_eq_true hc'.2)))
    · cases ho
  · cases ho
theorem o_mod : OpR X (binaryOp .Mod) (rO2 p modO) := by
  intro pins s σ H x y v u Q I rx ry h
  obtain ⟨σ', g, s', d, e, z, r, a1, a2, ho, f⟩ := h
  unfold modO at ho
  split at ho
  · split at ho
    · cases ho
      cases a1.int
      cases a2.int
      exact op_modN pins s σ H _ _ v u Q I rx ry ⟨_, _, rfl, rfl, by assumption, f.now r (.int _)⟩
    · cases ho
  · cases ho
theorem o_pow : OpR X (binaryOp .Pow) (rO2 p powO) := by
  intro pins s σ H x y v u Q I rx ry h
  obtain ⟨σ', g, s', d, e, z, r, a1, a2, ho, f⟩ := h
  unfold powO at ho
  split at ho
  · split at ho
    · rename_i i j hc
      cases ho
      cases a1.int
      cases a2.int
      obtain ⟨t, rfl⟩ := rx
      obtain ⟨t', rfl⟩ := ry
      have hc' := Bool.and_eq_true_iff.mp hc
      have h0 : 0 ≤ j := of_decide_eq_true hc'.1
      have h1 : (i.natAbs.log2 + 1) * j.toNat ≤ 1000000 := of_decide_eq_true hc'.2
      have h2 : Builtin.Int.intBits i * j.toNat ≤ 1000000 := Nat.le_trans (Nat.mul_le_mul_right _ (bits_le i)) h1
      have h3 : (Builtin.Int.intBits i : Int) * j ≤ 2 ^ 27 := by
        have e : j = (j.toNat : Int) := by omega
        rw [e]
        have : ((Builtin.Int.intBits i * j.toNat : Nat) : Int) ≤ 1000000 := by omega
        rw [Int.natCast_mul] at this
        omega
      exact pow_int h0 h3 ⟨.int _, H, I.tok _, ⟨_, rfl⟩, f.now r (.int _)⟩
    · cases ho
  · cases ho
theorem o_neg : UnR X (unaryOp .USub) (rO1 p negO) := by
  intro pins s σ H x v Q I rx h
  obtain ⟨σ', g, s', d, z, r, a1, ho, f⟩ := h
  unfold negO at ho
  split at ho
  · cases ho
    cases a1.int
    exact un_neg pins s σ H _ v Q I rx ⟨_, rfl, f.now r (.int _)⟩
  · cases ho
/-! ### comparisons -/
def cmpI (f : Int → Int → Bool) : O2 := fun x y _ => match x, y with
  | .int i, .int j => some (.bl (f i j))
  | _, _ => none
def ltO : O2 := fun x y _ => match x, y with
  | .int i, .int j => some (.bl (decide (i < j)))
  | .str i, .str j => some (.bl (decide (i.cps.toList < j.cps.toList)))
  | _, _ => none
def leO : O2 := fun x y _ => match x, y with
  | .int i, .int j => some (.bl (decide (i ≤ j)))
  | .str i, .str j => some (.bl (!decide (j.cps.toList < i.cps.toList)))
  | _, _ => none
def gtO : O2 := cmpI fun i j => decide (j < i)
def geO : O2 := cmpI fun i j => decide (j ≤ i)
theorem o_lt : OpR X (compareOp .Lt) (rO2 p ltO) := by
  intro pins s σ H x y v u Q I rx ry h
  obtain ⟨σ', g, s', d, e, z, r, a1, a2, ho, f⟩ := h
  unfold ltO at ho
  split at ho
  · cases ho
    cases a1.int
    cases a2.int
    exact op_lt pins s σ H _ _ v u Q I rx ry ⟨_, _, rfl, rfl, f.now r (.bl _)⟩
  · cases ho
    cases a1.str
    cases a2.str
    exact op_lt_str pins s σ H _ _ v u Q I rx ry ⟨_, _, rfl, rfl, f.now r (.bl _)⟩
  · cases ho
theorem o_le : OpR X (compareOp .LtE) (rO2 p leO) := by
  intro pins s σ H x y v u Q I rx ry h
  obtain ⟨σ', g, s', d, e, z, r, a1, a2, ho, f⟩ := h
  unfold leO at ho
  split at ho
  · cases ho
    cases a1.int
    cases a2.int
    exact op_le pins s σ H _ _ v u Q I rx ry ⟨_, _, rfl, rfl, f.now r (.bl _)⟩
  · cases ho
    cases a1.str
    cases a2.str
    exact op_le_str pins s σ H _ _ v u Q I rx ry ⟨_, _, rfl, rfl, f.now r (.bl _)⟩
  · cases ho
theorem o_gt : OpR X (compareOp .Gt) (rO2 p gtO) := by
  intro pins s σ H x y v u Q I rx ry h
  obtain ⟨σ', g, s', d, e, z, r, a1, a2, ho, f⟩ := h
  unfold gtO cmpI at ho
  split at ho
  · cases ho
    cases a1.int
    cases a2.int
    exact op_gt pins s σ H _ _ v u Q I rx ry ⟨_, _, rfl, rfl, f.now r (.bl _)⟩
  · cases ho
theorem o_ge : OpR X (compareOp .GtE) (rO2 p geO) := by
  intro pins s σ H x y v u Q I rx ry h
  obtain ⟨σ', g, s', d, e, z, r, a1, a2, ho, f⟩ := h
  unfold geO cmpI at ho
  split at ho
  · cases ho
    cases a1.int
    cases a2.int
    exact op_ge pins s σ H _ _ v u Q I rx ry ⟨_, _, rfl, rfl, f.now r (.bl _)⟩
  · cases ho
/-- == of data -/
def eqD (x y : D) : Option Bool := match x, y with
  | .str a, .str b => some (decide (a = b))
  | x, y => match x.py, y.py with
    | some a, some b => if SeqAt.shaped a && SeqAt.shaped b then some (PyData.eqv a b) else none
    | _, _ => none
def eqO : O2 := fun x y _ => (eqD x y).map .bl
def neO : O2 := fun x y _ => (eqD x y).map fun b => .bl (!b)
theorem eqD_cases {x y : D} {b : Bool} (h : eqD x y = some b) : (∃ i j, x = .str i ∧ y = .str j ∧ b = decide (i = j)) ∨ ∃ c d, x.py = some c ∧ y.py = some d ∧ SeqAt.shaped c = true ∧ SeqAt.shaped d = true ∧ b = PyData.eqv c d := by
  unfold eqD at h
  split at h
  · cases h
    exact .inl ⟨_, _, rfl, rfl, rfl⟩
  · split at h
    · split at h
      · rename_i h1 h2 hc
        cases h
        have := Bool.and_eq_true_iff.mp hc
        exact .inr ⟨_, _, h1, h2, this.1, this.2, rfl⟩
      · cases h
    · cases h
theorem o_eq (hu : X.A.units + 64 < cLine) : OpR X (compareOp .Eq) (rO2 p eqO) := by
  intro pins s σ H x y v u Q I rx ry h
  obtain ⟨σ', g, s', d, e, z, r, a1, a2, ho, f⟩ := h
  unfold eqO at ho
  cases hz : eqD d e with
  | none => rw [hz] at ho; cases ho
  | some b =>
    rw [hz] at ho
    cases ho
    rcases eqD_cases hz with ⟨i, j, rfl, rfl, rfl⟩ | ⟨c, k, h1, h2, s1, s2, rfl⟩
    · cases a1.str
      cases a2.str
      refine op_eq pins s σ H _ _ v u Q I rx ry ⟨rfl, ?_⟩
      rw [show decide (V.str i = V.str j) = decide (i = j) by simp]
      exact f.now r (.bl _)
    · exact op_eqD hu pins s σ H _ _ v u Q I rx ry ⟨c, k, a1.dp r.m h1, a2.dp r.m h2, s1, s2, f.now r (.bl _)⟩
theorem o_ne (hu : X.A.units + 64 < cLine) : OpR X (compareOp .NotEq) (rO2 p neO) := by
  intro pins s σ H x y v u Q I rx ry h
  obtain ⟨σ', g, s', d, e, z, r, a1, a2, ho, f⟩ := h
  unfold neO at ho
  cases hz : eqD d e with
  | none => rw [hz] at ho; cases ho
  | some b =>
    rw [hz] at ho
    cases ho
    rcases eqD_cases hz with ⟨i, j, rfl, rfl, rfl⟩ | ⟨c, k, h1, h2, s1, s2, rfl⟩
    · cases a1.str
      cases a2.str
      refine op_ne pins s σ H _ _ v u Q I rx ry ⟨rfl, ?_⟩
      rw [show decide (V.str i = V.str j) = decide (i = j) by simp]
      exact f.now r (.bl _)
    · exact op_neD hu pins s σ H _ _ v u Q I rx ry ⟨c, k, a1.dp r.m h1, a2.dp r.m h2, s1, s2, f.now r (.bl _)⟩
/-- x in y -/
def inD (x y : D) : Option Bool := match x, y with
  | .str a, .str b => some (!(Builtin.Str.occurrences b a 0 b.length 1).isEmpty)
  | x, y => match x.py, y.py with
    | some a, some (.list bs) => if SeqAt.shaped a && SeqAt.shaped (.list bs) then some (bs.any fun z => PyData.eqv z a) else none
    | some a, some (.tuple bs) => if SeqAt.shaped a && SeqAt.shaped (.tuple bs) then some (bs.any fun z => PyData.eqv z a) else none
    | _, _ => none
def inO : O2 := fun x y _ => (inD x y).map .bl
def ninO : O2 := fun x y _ => (inD x y).map fun b => .bl (!b)
theorem inD_cases {x y : D} {b : Bool} (h : inD x y = some b) : (∃ i j, x = .str i ∧ y = .str j ∧ b = (!(Builtin.Str.occurrences j i 0 j.length 1).isEmpty)) ∨
    (∃ c ds, x.py = some c ∧ y.py = some (.list ds) ∧ SeqAt.shaped c = true ∧ SeqAt.shaped (.list ds) = true ∧ b = ds.any fun z => PyData.eqv z c) ∨
    (∃ c ds, x.py = some c ∧ y.py = some (.tuple ds) ∧ SeqAt.shaped c = true ∧ SeqAt.shaped (.tuple ds) = true ∧ b = ds.any fun z => PyData.eqv z c) := by
  unfold inD at h
  split at h
  · cases h
    exact .inl ⟨_, _, rfl, rfl, rfl⟩
  · split at h
    · split at h
      · rename_i h1 h2 hc
        cases h
        have := Bool.and_eq_true_iff.mp hc
        exact .inr (.inl ⟨_, _, h1, h2, this.1, this.2, rfl⟩)
      · cases h
    · split at h
      · rename_i h1 h2 hc
        cases h
        have := Bool.and_eq_true_iff.mp hc
        exact .inr (.inr ⟨_, _, h1, h2, this.1, this.2, rfl⟩)
      · cases h
    · cases h
theorem room_min {A : Around} {c d : PyData} (h : SeqAt.shaped c = true) (hu : A.units + 65 < cLine) (n : Nat) : A.units + 1 + min n c.depth < cLine := by
  have := SeqAt.depth_of_shaped h
  have : min n c.depth ≤ c.depth := Nat.min_le_right _ _
  omega
theorem o_in (hu : X.A.units + 65 < cLine) : OpR X (compareOp .In) (rO2 p inO) := by
  intro pins s σ H x y v u Q I rx ry h
  obtain ⟨σ', g, s', d, e, z, r, a1, a2, ho, f⟩ := h
  unfold inO at ho
  cases hz : inD d e with
  | none => rw [hz] at ho; cases ho
  | some b =>
    rw [hz] at ho
    cases ho
    rcases inD_cases hz with ⟨i, j, rfl, rfl, rfl⟩ | ⟨c, ds, h1, h2, s1, s2, rfl⟩ | ⟨c, ds, h1, h2, s1, s2, rfl⟩
    · cases a1.str
      cases a2.str
      exact op_in_str pins s σ H _ _ v u Q I rx ry ⟨_, _, rfl, rfl, f.now r (.bl _)⟩
    · exact op_inD hu pins s σ H _ _ v u Q I rx ry ⟨c, ds, a1.dp r.m h1, a2.dp r.m h2, s1, s2, f.now r (.bl _)⟩
    · obtain ⟨as, r1⟩ := Dp.reads I c x v (a1.dp r.m h1) rx
      obtain ⟨bs, r2⟩ := Dp.reads I (.tuple ds) y u (a2.dp r.m h2) ry
      exact SeqAt.in_tuple_reads r2 r1 (SeqAt.canLay_of_shaped s2) (SeqAt.canLay_of_shaped s1) (room_min (d := c) s1 hu _) ⟨.bl _, H, I, rfl, f.now r (.bl _)⟩
theorem o_nin (hu : X.A.units + 65 < cLine) : OpR X (compareOp .NotIn) (rO2 p ninO) := by
  intro pins s σ H x y v u Q I rx ry h
  obtain ⟨σ', g, s', d, e, z, r, a1, a2, ho, f⟩ := h
  unfold ninO at ho
  cases hz : inD d e with
  | none => rw [hz] at ho; cases ho
  | some b =>
    rw [hz] at ho
    cases ho
    rcases inD_cases hz with ⟨i, j, rfl, rfl, rfl⟩ | ⟨c, ds, h1, h2, s1, s2, rfl⟩ | ⟨c, ds, h1, h2, s1, s2, rfl⟩
    · cases a1.str
      cases a2.str
      exact op_notin_str pins s σ H _ _ v u Q I rx ry ⟨_, _, rfl, rfl, f.now r (.bl _)⟩
    · exact op_notInD hu pins s σ H _ _ v u Q I rx ry ⟨c, ds, a1.dp r.m h1, a2.dp r.m h2, s1, s2, f.now r (.bl _)⟩
    · obtain ⟨as, r1⟩ := Dp.reads I c x v (a1.dp r.m h1) rx
      obtain ⟨bs, r2⟩ := Dp.reads I (.tuple ds) y u (a2.dp r.m h2) ry
      exact SeqAt.notIn_tuple_reads r2 r1 (SeqAt.canLay_of_shaped s2) (SeqAt.canLay_of_shaped s1) (room_min (d := c) s1 hu _) ⟨.bl _, H, I, rfl, f.now r (.bl _)⟩
end
end Mp

set_option Elab.async false
set_option linter.all false
set_option maxRecDepth 100000
set_option maxHeartbeats 4000000
namespace Mp
open PySem PySem.Spec L2
open PyProof.Rows hiding St

theorem RVp.tupV {K : Kx} {g : G} {H : Hp} {ds : List D} {v : V} (h : RVp K g H (.tup ds) v) : RV K g.F g.φ (.tup ds) v := by
  rcases h with h | ⟨_, _, _, e, _⟩
  · exact h
  · cases e
/-! ### truth -/
def truO (x : D) (s : S) : Option Bool := match x with
  | .non => some false
  | .bl b => some b
  | .int i => some (i != 0)
  | .str x => if x.length ≤ 100000 then some ((x.length : Int) != 0) else none
  | .tup xs => some (!xs.isEmpty)
  | .lst xs => some (!xs.isEmpty)
  | .scr xs => some (!xs.isEmpty)
  | .dct => some false
  | .ref n => (s.ms[n]?).map fun xs => !xs.isEmpty
  | _ => none
def truM (x : D) : M Bool := fun s => match truO x s with
  | some b => .ok b s
  | none => .stuck
theorem RVs.emp {K : Kx} {F : Hp} {φ : List Addr} {ds : List D} {vs : List V} (h : RVs K F φ ds vs) : (!ds.isEmpty) = !vs.isEmpty := by
  cases h <;> rfl
theorem truV_of {K : Kx} {g : G} {H : Hp} {s : S} {x : D} {v : V} {k : Bool} (m : RM K g H s.ms) (r : RVp K g H x v) (h : truO x s = some k) : TruV K.K v H k := by
  cases x with
  | non => cases r.non; cases h; rfl
  | bl b => cases r.bl; cases h; rfl
  | int i => cases r.int; cases h; rfl
  | str y =>
    cases r.str
    unfold truO at h
    by_cases hl : y.length ≤ 100000
    · simp only [if_pos hl] at h
      cases h
      exact ⟨szL hl, rfl⟩
    · simp only [if_neg hl] at h
      cases h
  | tup xs =>
    obtain ⟨a, vs, rfl, h1, h2⟩ := r.tup m
    cases h
    exact .inr (.inl ⟨vs, h1, h2.emp⟩)
  | lst xs =>
    obtain ⟨a, vs, rfl, h1, h2⟩ := r.lst m
    cases h
    exact .inl ⟨vs, SqL.of h1, h2.emp⟩
  | scr xs =>
    obtain ⟨a, vs, rfl, h1, h2⟩ := r.scr m
    cases h
    exact .inl ⟨vs, h1, h2.emp⟩
  | dct =>
    obtain ⟨a, rfl, h1⟩ := r.dct m
    cases h
    exact .inr (.inr ⟨[], h1, rfl⟩)
  | ref n =>
    obtain ⟨a, ds, vs, rfl, h1, h2, h3, h4⟩ := r.ref m
    have h : Option.map (fun xs : List D => !xs.isEmpty) s.ms[n]? = some k := h
    rw [h2] at h
    cases h
    exact .inl ⟨vs, SqL.of h3, h4.emp⟩
  | obj a => cases h
  | clo L n => cases h
def testM (f : M D) : M Bool := bnd f truM
def andB (f h : M Bool) : M Bool := bnd f fun b => if b then h else ret false
def orB (f h : M Bool) : M Bool := bnd f fun b => if b then ret true else h
def notB (f : M Bool) : M Bool := bnd f fun b => ret (!b)
def andV (f h : M D) : M D := bnd f fun x => bnd (truM x) fun k => if k then h else ret x
def orV (f h : M D) : M D := bnd f fun x => bnd (truM x) fun k => if k then ret x else h
def notV (f : M D) : M D := bnd f fun x => bnd (truM x) fun k => ret (.bl (!k))
def ifV (t : M Bool) (f h : M D) : M D := bnd t fun b => if b then f else h
theorem truM_fin {K : Kx} {p : Pm K} {σ : L2.St} {g : G} {H : Hp} {s : S} {γ δ : Type} {A' : γ → δ → G → Hp → G → Hp → Prop} {x : D} {k : Bool → M γ} {Q : δ → Hp → Prop} (h : Post p σ A' (bnd (truM x) k s) g H Q) :
    ∃ b, truO x s = some b ∧ Post p σ A' (k b s) g H Q := by
  unfold bnd truM at h
  cases z : truO x s with
  | none => rw [z] at h; exact h.elim
  | some b =>
    rw [z] at h
    exact ⟨b, rfl, h⟩
section
variable {X : Cx} {lt : Nat → LamI} {p : Pm ⟨X.K, lt⟩} {e a b c : Expr} {rest : List Expr} {pos : Pos} {fa fb fc : M D} {ba bb : M Bool}
theorem b_test (ha : PE X a (tP p fa)) (he : ∀ whole, isTrue a X.env whole = (do let v ← whole; standAt a.pos; holding [v] (truthy v)) := by intro _; rfl) : PT X a (tB p (testM fa)) := (pt_truth ha he).imp fun σ H Q q => by
  obtain ⟨g, s, r, q⟩ := seqP preB q
  refine ⟨g, s, r, Post.mono q fun v H1 ⟨g1, s1, x, r1, a1, q1⟩ => ?_⟩
  unfold truM at q1
  cases z : truO x s1 with
  | none => rw [z] at q1; exact q1.elim
  | some k =>
    rw [z] at q1
    exact ⟨k, truV_of r1.m a1 z, q1 k H1 g1 r1 (.refl _ _) rfl⟩
theorem b_and1 (ha : PT X a (tB p ba)) : PW X (.BoolOp .And [a] pos) (tB p ba) := pw_and1 ha
theorem b_or1 (ha : PT X a (tB p ba)) : PW X (.BoolOp .Or [a] pos) (tB p ba) := pw_or1 ha
theorem b_and (ha : PT X a (tB p ba)) (hb : PW X (.BoolOp .And (b :: rest) pos) (tB p bb)) : PW X (.BoolOp .And (a :: b :: rest) pos) (tB p (andB ba bb)) := (pw_and ha hb).imp fun σ H Q q => by
  obtain ⟨g, s, r, q⟩ := seqB preB q
  refine ⟨g, s, r, Post.mono q fun b H1 ⟨g1, s1, r1, q1⟩ => ?_⟩
  cases b with
  | true =>
    rw [if_pos rfl] at q1
    rw [if_pos rfl]
    exact ⟨g1, s1, r1, q1⟩
  | false =>
    rw [if_neg Bool.false_ne_true] at q1
    rw [if_neg Bool.false_ne_true]
    exact q1 false H1 g1 r1 (.refl _ _) rfl
theorem b_or (ha : PT X a (tB p ba)) (hb : PW X (.BoolOp .Or (b :: rest) pos) (tB p bb)) : PW X (.BoolOp .Or (a :: b :: rest) pos) (tB p (orB ba bb)) := (pw_or ha hb).imp fun σ H Q q => by
  obtain ⟨g, s, r, q⟩ := seqB preB q
  refine ⟨g, s, r, Post.mono q fun b H1 ⟨g1, s1, r1, q1⟩ => ?_⟩
  cases b with
  | true =>
    rw [if_pos rfl] at q1
    rw [if_pos rfl]
    exact q1 true H1 g1 r1 (.refl _ _) rfl
  | false =>
    rw [if_neg Bool.false_ne_true] at q1
    rw [if_neg Bool.false_ne_true]
    exact ⟨g1, s1, r1, q1⟩
theorem b_not (ha : PT X a (tB p ba)) : PT X (.UnaryOp .Not a pos) (tB p (notB ba)) := (pt_not ha).imp fun σ H Q q => by
  obtain ⟨g, s, r, q⟩ := seqB preB q
  exact ⟨g, s, r, Post.mono q fun b H1 ⟨g1, s1, r1, q1⟩ => q1 (!b) H1 g1 r1 (.refl _ _) rfl⟩
theorem d_one {op} (ha : PE X a (tD p fa)) : PE X (.BoolOp op [a] pos) (tD p fa) := pe_one ha
theorem d_and (ha : PE X a (tD p fa)) (hb : PE X (.BoolOp .And (b :: rest) pos) (tD p fb)) : PE X (.BoolOp .And (a :: b :: rest) pos) (tD p (andV fa fb)) := (pe_andT ha hb).imp fun σ H Q q => by
  obtain ⟨g, s, r, q⟩ := seqV preV q
  refine ⟨g, s, r, Post.mono q fun v H1 ⟨g1, s1, x, r1, a1, q1⟩ => ?_⟩
  obtain ⟨k, z, q2⟩ := truM_fin q1
  refine ⟨k, truV_of r1.m (.inl a1) z, ?_⟩
  cases k with
  | true =>
    rw [if_pos rfl] at q2
    rw [if_pos rfl]
    exact ⟨g1, s1, r1, q2⟩
  | false =>
    rw [if_neg Bool.false_ne_true] at q2
    rw [if_neg Bool.false_ne_true]
    exact q2 v H1 g1 r1 (.refl _ _) a1
theorem d_or (ha : PE X a (tD p fa)) (hb : PE X (.BoolOp .Or (b :: rest) pos) (tD p fb)) : PE X (.BoolOp .Or (a :: b :: rest) pos) (tD p (orV fa fb)) := (pe_orT ha hb).imp fun σ H Q q => by
  obtain ⟨g, s, r, q⟩ := seqV preV q
  refine ⟨g, s, r, Post.mono q fun v H1 ⟨g1, s1, x, r1, a1, q1⟩ => ?_⟩
  obtain ⟨k, z, q2⟩ := truM_fin q1
  refine ⟨k, truV_of r1.m (.inl a1) z, ?_⟩
  cases k with
  | true =>
    rw [if_pos rfl] at q2
    rw [if_pos rfl]
    exact q2 v H1 g1 r1 (.refl _ _) a1
  | false =>
    rw [if_neg Bool.false_ne_true] at q2
    rw [if_neg Bool.false_ne_true]
    exact ⟨g1, s1, r1, q2⟩
theorem d_not (ha : PE X a (tP p fa)) : PE X (.UnaryOp .Not a pos) (tD p (notV fa)) := (pe_notT ha).imp fun σ H Q q => by
  obtain ⟨g, s, r, q⟩ := seqP preV q
  refine ⟨g, s, r, Post.mono q fun v H1 ⟨g1, s1, x, r1, a1, q1⟩ => ?_⟩
  obtain ⟨k, z, q2⟩ := truM_fin q1
  exact ⟨k, truV_of r1.m a1 z, q2 _ H1 g1 r1 (.refl _ _) (.bl _)⟩
theorem d_if (hc : PT X c (tB p ba)) (ha : PE X a (tD p fa)) (hb : PE X b (tD p fb)) : PE X (.IfExp c a b pos) (tD p (ifV ba fa fb)) := (pe_ifExp hc ha hb).imp fun σ H Q q => by
  obtain ⟨g, s, r, q⟩ := seqB preV q
  refine ⟨g, s, r, Post.mono q fun k H1 ⟨g1, s1, r1, q1⟩ => ?_⟩
  cases k with
  | true =>
    rw [if_pos rfl] at q1
    rw [if_pos rfl]
    exact ⟨g1, s1, r1, q1⟩
  | false =>
    rw [if_neg Bool.false_ne_true] at q1
    rw [if_neg Bool.false_ne_true]
    exact ⟨g1, s1, r1, q1⟩
/-! ### subscripts -/
def subsO : O2 := fun x y s => match x, y with
  | .tup xs, .int i => atI xs i
  | .lst xs, .int i => atI xs i
  | .scr xs, .int i => atI xs i
  | .ref n, .int i => (s.ms[n]?).bind fun xs => atI xs i
  | .str z, .int i => if z.length ≤ 100000 then (atI z.cps.toList i).map fun c => .str ⟨#[c]⟩ else none
  | _, _ => none
theorem RVs.atI {K : Kx} {F : Hp} {φ : List Addr} {ds : List D} {vs : List V} {i : Int} {d : D} (h : RVs K F φ ds vs) (e : L2.atI ds i = some d) : ∃ v, L2.atI vs i = some v ∧ RV K F φ d v := by
  have hl := h.length
  unfold L2.atI at e ⊢
  rw [← hl]
  cases z : ixN ds.length i with
  | none => rw [z] at e; cases e
  | some j =>
    rw [z] at e
    exact h.getD e
theorem o_subs : IxR X (rO2 p subsO) := by
  intro e1 e2 pins s σ H x y v u Q I rx ry h hp
  obtain ⟨σ', g, s', d, e, z, r, a1, a2, ho, f⟩ := h
  unfold subsO at ho
  split at ho
  · obtain ⟨a, vs, rfl, h1, h2⟩ := a1.tup r.m
    cases a2.int
    obtain ⟨w, h3, h4⟩ := h2.atI ho
    exact ix_tup e1 e2 pins s σ H _ _ v u Q I rx ry ⟨a, vs, _, w, rfl, rfl, h1, h3, f.now r h4⟩ hp
  · obtain ⟨a, vs, rfl, h1, h2⟩ := a1.lst r.m
    cases a2.int
    obtain ⟨w, h3, h4⟩ := h2.atI ho
    exact ix_list e1 e2 pins s σ H _ _ v u Q I rx ry ⟨a, vs, _, w, rfl, rfl, SqL.of h1, h3, f.now r h4⟩ hp
  · obtain ⟨a, vs, rfl, h1, h2⟩ := a1.scr r.m
    cases a2.int
    obtain ⟨w, h3, h4⟩ := h2.atI ho
    exact ix_list e1 e2 pins s σ H _ _ v u Q I rx ry ⟨a, vs, _, w, rfl, rfl, h1, h3, f.now r h4⟩ hp
  · obtain ⟨a, ds, vs, rfl, h1, h2, h3, h4⟩ := a1.ref r.m
    cases a2.int
    rw [h2] at ho
    obtain ⟨w, h5, h6⟩ := h4.atI ho
    exact ix_list e1 e2 pins s σ H _ _ v u Q I rx ry ⟨a, vs, _, w, rfl, rfl, SqL.of h3, h5, f.now r h6⟩ hp
  · cases a1.str
    cases a2.int
    split at ho
    · rename_i hl
      cases hz : L2.atI (α := Nat) _ _ with
      | none => rw [hz] at ho; cases ho
      | some c =>
        rw [hz] at ho
        cases ho
        exact ix_str e1 e2 pins s σ H _ _ v u Q I rx ry ⟨_, _, c, rfl, rfl, szL hl, hz, f.now r (.str _)⟩ hp
    · cases ho
  · cases ho
theorem d_subs (ha : PE X a (tP p fa)) (hb : PE X b (tP p fb)) (hs : PlainIx b := by intro _ _; rfl) : PE X (.Subscript a b pos) (tD p (op2 subsO fa fb)) := (pe_ix o_subs ha hb hs).imp fun _ _ _ q => use2 q
/-! ### slices -/
def cutD {α : Type} (xs : List α) (lo hi : Option Int) : List α := (xs.drop (HT.sIx xs.length 0 lo)).take (HT.sIx xs.length xs.length hi - HT.sIx xs.length 0 lo)
def slO (x : D) (lo hi : Option Int) : Option D := match x with
  | .tup xs => some (.tup (cutD xs lo hi))
  | .lst xs => some (.lst (cutD xs lo hi))
  | .str z => if z.length ≤ 100000 then some (.str (cutS z lo hi)) else none
  | _ => none
def partN : M (Option Int) := ret none
def partS (f : M D) : M (Option Int) := bnd f fun x => lift (match x with | .int i => some (some i) | _ => none)
def sliceM (f : M D) (l h : M (Option Int)) : M D := bnd f fun x => bnd l fun lo => bnd h fun hi => lift (slO x lo hi)
abbrev AO : Option Int → Option Int → G → Hp → G → Hp → Prop := fun d v _ _ _ _ => v = d
abbrev tO {K : Kx} (p : Pm K) (f : M (Option Int)) : TO := tG p AO f
theorem preO : Pre AO := fun _ _ _ _ _ _ _ _ _ a => a
theorem po_no : PO X none (tO p partN) := ⟨fun pins s σ H Q I h => po_none.run pins s σ H Q I (by
  obtain ⟨g, s, r, q⟩ := h
  exact q none H g r (.refl _ _) rfl)⟩
theorem po_so (ha : PE X a (tP p fa)) : PO X (some a) (tO p (partS fa)) := ⟨fun pins s σ H Q I h => (po_some ha).run pins s σ H Q I (by
  obtain ⟨g, s, r, q⟩ := seqP preO h
  refine ⟨g, s, r, Post.mono q fun v H1 ⟨g1, s1, x, r1, a1, q1⟩ => ?_⟩
  unfold lift at q1
  cases x with
  | int i =>
    cases a1.int
    exact ⟨i, rfl, q1 _ H1 g1 r1 (.refl _ _) rfl⟩
  | _ => exact q1.elim)⟩
theorem Fin.lst {K : Kx} {p : Pm K} {σ : L2.St} {g : G} {H : Hp} {s : S} {ds : List D} {vs : List V} {Q : VK} (h : Fin p σ g H s (.lst ds) Q) (r : RS p g σ H s) (rv : RVs K g.F g.φ ds vs) {q : Addr} (hq : H q = none) : Q (.ref q) (upd H q (.lst vs)) :=
  h _ _ _ (r.add hq _) (r.addE hq _) (.lst G.add_same (RVs.up (r.m.addUp hq _) ⟨[], by simp [G.add]⟩ _ _ rv))
def rSl {K : Kx} (p : Pm K) : V → Option Int → Option Int → Hp → VK → Prop := fun v lo hi H Q => ∃ σ g s x d, RS p g σ H s ∧ RVp K g H x v ∧ slO x lo hi = some d ∧ Fin p σ g H s d Q
theorem RVs.cut {K : Kx} {F : Hp} {φ : List Addr} {ds : List D} {vs : List V} (h : RVs K F φ ds vs) (lo hi : Option Int) : RVs K F φ (cutD ds lo hi) (cutV vs lo hi) := by
  unfold cutD cutV
  rw [← h.length]
  exact (h.drop _).take _
theorem cut_whole {α : Type} (xs : List α) (lo hi : Option Int) (h1 : HT.sIx xs.length 0 lo = 0) (h2 : HT.sIx xs.length xs.length hi = xs.length) : cutD xs lo hi = xs := by
  unfold cutD
  rw [h1, h2, List.drop_zero, Nat.sub_zero, List.take_length]
theorem o_sl : SlR X (rSl p) := by
  intro pins s σ H x v vl vu lo hi sl Q I rx hs pl pu h
  obtain ⟨σ', g, s', d, z, r, a1, ho, f⟩ := h
  unfold slO at ho
  split at ho
  · cases ho
    obtain ⟨a, vs, rfl, h1, h2⟩ := a1.tup r.m
    have back := a1.tupV
    refine sl_tupA pins s σ H _ v vl vu lo hi sl Q I rx hs pl pu ⟨a, vs, rfl, h1, fun hw => ?_, fun _ q hq => f.tup r (h2.cut lo hi) hq⟩
    rw [← h2.length] at hw
    rw [cut_whole _ _ _ hw.1 hw.2] at f
    exact f.now r back
  · cases ho
    obtain ⟨a, vs, rfl, h1, h2⟩ := a1.lst r.m
    exact sl_list pins s σ H _ v vl vu lo hi sl Q I rx hs pl pu ⟨a, vs, rfl, SqL.of h1, fun q hq => f.lst r (h2.cut lo hi) hq⟩
  · split at ho
    · cases ho
      cases a1.str
      exact sl_str pins s σ H _ v vl vu lo hi sl Q I rx hs pl pu ⟨_, rfl, szL (by assumption), f.now r (.str _)⟩
    · cases ho
  · cases ho
theorem d_slice {lo hi : Option Expr} {p2 : Pos} {ml mh : M (Option Int)} (ha : PE X a (tP p fa)) (hl : PO X lo (tO p ml)) (hh : PO X hi (tO p mh)) : PE X (.Subscript a (.Slice lo hi none p2) pos) (tD p (sliceM fa ml mh)) := (pe_slice o_sl ha hl hh).imp fun σ H Q q => by
  obtain ⟨g, s, r, q⟩ := seqP preV q
  refine ⟨g, s, r, Post.mono q fun v H1 ⟨g1, s1, x, r1, a1, q1⟩ => ?_⟩
  refine ⟨g1, s1, r1, Post.mono (Post.bnd (A := AO) preV q1) fun l H2 ⟨g2, s2, l', r2, e2, a2, q2⟩ => ?_⟩
  subst a2
  refine ⟨g2, s2, r2, Post.mono (Post.bnd (A := AO) preV q2) fun h H3 ⟨g3, s3, h', r3, e3, a3, q3⟩ => ?_⟩
  subst a3
  unfold lift at q3
  cases z : slO x l h with
  | none => rw [z] at q3; exact q3.elim
  | some d =>
    rw [z] at q3
    exact ⟨σ, g3, s3, x, d, r3, (a1.ext e2).ext e3, z, q3⟩
/-- xs[::-1] of a list -/
def revM (f : M D) : M D := bnd f fun x => lift (match x with | .lst xs => some (.lst xs.reverse) | _ => none)
theorem d_rev {k : Nat} {p1 p2 p3 : Pos} (ha : PE X a (tP p fa)) : PE X (.Subscript a (.Slice none none (some (.UnaryOp .USub (.Constant (.int 1) k p1) p2)) p3) pos) (tD p (revM fa)) := (pe_revL ha).imp fun σ H Q q => by
  obtain ⟨g, s, r, q⟩ := seqP preV q
  refine ⟨g, s, r, Post.mono q fun v H1 ⟨g1, s1, x, r1, a1, q1⟩ => ?_⟩
  unfold lift at q1
  cases x with
  | lst xs =>
    obtain ⟨a, vs, rfl, h1, h2⟩ := a1.lst r1.m
    have f : Fin p σ g1 H1 s1 (.lst xs.reverse) Q := q1
    exact ⟨a, vs, rfl, SqL.of h1, fun q hq => f.lst r1 h2.reverse hq⟩
  | _ => exact q1.elim
/-! ### built-ins called -/
def rC1 {K : Kx} (p : Pm K) (o : O1) : List V → Hp → VK → Prop := fun xs H Q => ∃ v, xs = [v] ∧ rO1 p o v H Q
def rC2 {K : Kx} (p : Pm K) (o : O2) : List V → Hp → VK → Prop := fun xs H Q => ∃ v u, xs = [v, u] ∧ rO2 p o v u H Q
theorem useC1 {K : Kx} {p : Pm K} {o : O1} {fa : M D} {σ : L2.St} {H : Hp} {Q : VK} (h : tD p (op1 o fa) σ H Q) : tCB (rC1 p o) (tCons (tP p fa) tNil) σ H Q := by
  obtain ⟨g, s, r, q⟩ := use1 h
  exact ⟨g, s, r, Post.mono q fun v H1 q1 => ⟨v, rfl, q1⟩⟩
theorem useC2 {K : Kx} {p : Pm K} {o : O2} {fa fb : M D} {σ : L2.St} {H : Hp} {Q : VK} (h : tD p (op2 o fa fb) σ H Q) : tCB (rC2 p o) (tCons (tP p fa) (tCons (tP p fb) tNil)) σ H Q := by
  obtain ⟨g, s, r, q⟩ := use2 h
  refine ⟨g, s, r, Post.mono q fun v H1 ⟨g1, s1, r1, q1⟩ => ⟨g1, s1, r1, Post.mono q1 fun u H2 q2 => ⟨v, u, rfl, q2⟩⟩⟩
section
variable {x : Str} {pf : Pos} {id T : String}
theorem d_call1 {o : O1} (hc : CallR X (.builtin id) (rC1 p o)) (hg : Gl X x) (hm : X.mg x = none) (hv : bootBuiltins x = some (.builtin id)) (ha : PE X a (tP p fa)) (hn : x ≠ "__name__" := by decide) (hdb : (x == ("__debug__" : Str)) = false := by decide)
    (he : starEach (a :: []) X.env = (false, eval a X.env) :: starEach [] X.env := by rfl) : PE X (.Call (.Name x pf) [a] [] pos) (tD p (op1 o fa)) := (pe_callB hc hg hm hv (pa_cons ha pa_nil he) hn hdb he).imp fun _ _ _ q => useC1 q
theorem d_callT1 {o : O1} (hc : CallR X (.type T) (rC1 p o)) (hg : Gl X x) (hm : X.mg x = none) (hv : bootBuiltins x = some (.type T)) (ha : PE X a (tP p fa)) (hn : x ≠ "__name__" := by decide) (hdb : (x == ("__debug__" : Str)) = false := by decide)
    (he : starEach (a :: []) X.env = (false, eval a X.env) :: starEach [] X.env := by rfl) : PE X (.Call (.Name x pf) [a] [] pos) (tD p (op1 o fa)) := (pe_callTy hc hg hm hv (pa_cons ha pa_nil he) hn hdb he).imp fun _ _ _ q => useC1 q
theorem d_call2 {o : O2} (hc : CallR X (.builtin id) (rC2 p o)) (hg : Gl X x) (hm : X.mg x = none) (hv : bootBuiltins x = some (.builtin id)) (ha : PE X a (tP p fa)) (hb : PE X b (tP p fb)) (hn : x ≠ "__name__" := by decide) (hdb : (x == ("__debug__" : Str)) = false := by decide)
    (he : starEach (a :: [b]) X.env = (false, eval a X.env) :: starEach [b] X.env := by rfl) (he2 : starEach (b :: []) X.env = (false, eval b X.env) :: starEach [] X.env := by rfl) (hpl : (backTo pos (starEach [b] X.env)).any (·.1) = false := by rfl) :
    PE X (.Call (.Name x pf) [a, b] [] pos) (tD p (op2 o fa fb)) := (pe_callB hc hg hm hv (pa_cons ha (pa_cons hb pa_nil he2) he) hn hdb he hpl).imp fun _ _ _ q => useC2 q
/-- a built-in function that a module's name holds (math.gcd) -/
theorem d_callM2 {o : O2} (hc : CallR X (.builtin id) (rC2 p o)) (hg : Gl X x) (hm : X.mg x = some (.builtin id)) (ha : PE X a (tP p fa)) (hb : PE X b (tP p fb)) (hdb : (x == ("__debug__" : Str)) = false := by decide)
    (he : starEach (a :: [b]) X.env = (false, eval a X.env) :: starEach [b] X.env := by rfl) (he2 : starEach (b :: []) X.env = (false, eval b X.env) :: starEach [] X.env := by rfl) (hpl : (backTo pos (starEach [b] X.env)).any (·.1) = false := by rfl) :
    PE X (.Call (.Name x pf) [a, b] [] pos) (tD p (op2 o fa fb)) := (pe_callBfun hc hg hm (pa_cons ha (pa_cons hb pa_nil he2) he) hdb he hpl).imp fun _ _ _ q => useC2 q
end
def lenO : O1 := fun x s => match x with
  | .tup xs => some (.int xs.length)
  | .lst xs => some (.int xs.length)
  | .scr xs => some (.int xs.length)
  | .ref n => (s.ms[n]?).map fun xs => .int xs.length
  | .str z => if z.length ≤ 100000 then some (.int z.length) else none
  | _ => none
theorem c_len : CallR X (.builtin "len") (rC1 p lenO) := by
  intro pins s σ H xs us Q I r0 h
  obtain ⟨v, rfl, σ', g, s', d, z, r, a1, ho, f⟩ := h
  unfold lenO at ho
  split at ho
  · cases ho
    obtain ⟨a, vs, rfl, h1, h2⟩ := a1.tup r.m
    exact call_len pins s σ H _ us Q I r0 ⟨_, vs.length, rfl, .inr ⟨vs, h1, rfl⟩, by rw [← h2.length]; exact f.now r (.int _)⟩
  · cases ho
    obtain ⟨a, vs, rfl, h1, h2⟩ := a1.lst r.m
    exact call_len pins s σ H _ us Q I r0 ⟨_, vs.length, rfl, .inl ⟨vs, SqL.of h1, rfl⟩, by rw [← h2.length]; exact f.now r (.int _)⟩
  · cases ho
    obtain ⟨a, vs, rfl, h1, h2⟩ := a1.scr r.m
    exact call_len pins s σ H _ us Q I r0 ⟨_, vs.length, rfl, .inl ⟨vs, h1, rfl⟩, by rw [← h2.length]; exact f.now r (.int _)⟩
  · obtain ⟨a, ds, vs, rfl, h1, h2, h3, h4⟩ := a1.ref r.m
    rw [h2] at ho
    cases ho
    exact call_len pins s σ H _ us Q I r0 ⟨_, vs.length, rfl, .inl ⟨vs, SqL.of h3, rfl⟩, by rw [← h4.length]; exact f.now r (.int _)⟩
  · split at ho
    · cases ho
      cases a1.str
      exact call_len pins s σ H _ us Q I r0 ⟨_, _, rfl, ⟨szL (by assumption), rfl⟩, f.now r (.int _)⟩
    · cases ho
  · cases ho
def absO : O1 := fun x _ => match x with
  | .int i => some (.int (if i < 0 then -i else i))
  | _ => none
theorem c_abs : CallR X (.builtin "abs") (rC1 p absO) := by
  intro pins s σ H xs us Q I r0 h
  obtain ⟨v, rfl, σ', g, s', d, z, r, a1, ho, f⟩ := h
  unfold absO at ho
  split at ho
  · cases ho
    cases a1.int
    exact call_abs pins s σ H _ us Q I r0 ⟨_, rfl, f.now r (.int _)⟩
  · cases ho
def maxO : O2 := fun x y _ => match x, y with
  | .int i, .int j => some (.int (if j > i then j else i))
  | _, _ => none
def minO : O2 := fun x y _ => match x, y with
  | .int i, .int j => some (.int (if j < i then j else i))
  | _, _ => none
theorem c_max (hc : X.calm = true) : CallR X (.builtin "max") (rC2 p maxO) := by
  intro pins s σ H xs us Q I r0 h
  obtain ⟨v, u, rfl, σ', g, s', d, e, z, r, a1, a2, ho, f⟩ := h
  unfold maxO at ho
  split at ho
  · cases ho
    cases a1.int
    cases a2.int
    exact call_max2 hc pins s σ H _ us Q I r0 ⟨_, _, rfl, f.now r (.int _)⟩
  · cases ho
theorem c_min (hc : X.calm = true) : CallR X (.builtin "min") (rC2 p minO) := by
  intro pins s σ H xs us Q I r0 h
  obtain ⟨v, u, rfl, σ', g, s', d, e, z, r, a1, a2, ho, f⟩ := h
  unfold minO at ho
  split at ho
  · cases ho
    cases a1.int
    cases a2.int
    exact call_min2 hc pins s σ H _ us Q I r0 ⟨_, _, rfl, f.now r (.int _)⟩
  · cases ho
def intO : O1 := fun x _ => match x with
  | .int i => some (.int i)
  | .bl k => some (.int (if k then 1 else 0))
  | .str z => if z.length ≤ 640 then (PySem.intText? z).map .int else none
  | _ => none
theorem c_int : CallR X (.type "int") (rC1 p intO) := by
  intro pins s σ H xs us Q I r0 h
  obtain ⟨v, rfl, σ', g, s', d, z, r, a1, ho, f⟩ := h
  unfold intO at ho
  split at ho
  · cases ho
    cases a1.int
    exact call_int1 pins s σ H _ us Q I r0 (.inl ⟨_, rfl, f.now r (.int _)⟩)
  · cases ho
    cases a1.bl
    exact call_int1 pins s σ H _ us Q I r0 (.inr ⟨_, rfl, f.now r (.int _)⟩)
  · split at ho
    · rename_i hl
      cases hz : PySem.intText? _ with
      | none => rw [hz] at ho; cases ho
      | some n =>
        rw [hz] at ho
        cases ho
        cases a1.str
        exact call_int_str pins s σ H _ us Q I r0 ⟨_, n, rfl, hz, hl, f.now r (.int _)⟩
    · cases ho
  · cases ho
def gcdO : O2 := fun x y _ => match x, y with
  | .int i, .int j => some (.int ((Nat.gcd i.natAbs j.natAbs : Nat) : Int))
  | _, _ => none
theorem c_gcd : CallR X (.builtin "math.gcd") (rC2 p gcdO) := by
  intro pins s σ H xs us Q I r0 h
  obtain ⟨v, u, rfl, σ', g, s', d, e, z, r, a1, a2, ho, f⟩ := h
  unfold gcdO at ho
  split at ho
  · cases ho
    cases a1.int
    cases a2.int
    exact cr_gcd pins s σ H _ us Q I r0 ⟨_, _, rfl, f.now r (.int _)⟩
  · cases ho
def divmodO : O2 := fun x y _ => match x, y with
  | .int i, .int j => if 0 < j ∧ j.natAbs.log2 < 9000 then some (.tup [.int (i / j), .int (i % j)]) else none
  | _, _ => none
theorem c_divmod : CallR X (.builtin "divmod") (rC2 p divmodO) := by
  intro pins s σ H xs us Q I r0 h
  obtain ⟨v, u, rfl, σ', g, s', d, e, z, r, a1, a2, ho, f⟩ := h
  unfold divmodO at ho
  split at ho
  · split at ho
    · rename_i hc
      cases ho
      cases a1.int
      cases a2.int
      exact call_divmodW pins s σ H _ us Q I r0 ⟨_, _, rfl, ⟨hc.1, PyProof.noPylong_of_log2 hc.2⟩, fun q hq => f.tup r (.cons (.int _) (.cons (.int _) .nil)) hq⟩
    · cases ho
  · cases ho
def strO : O1 := fun x _ => match x with
  | .int i => if i.natAbs.log2 < 1920 then some (.str (toString i)) else none
  | _ => none
theorem c_str : CallR X (.type "str") (rC1 p strO) := by
  intro pins s σ H xs us Q I r0 h
  obtain ⟨v, rfl, σ', g, s', d, z, r, a1, ho, f⟩ := h
  unfold strO at ho
  split at ho
  · split at ho
    · cases ho
      cases a1.int
      exact call_str_int pins s σ H _ us Q I r0 ⟨_, rfl, by assumption, f.now r (.str _)⟩
    · cases ho
  · cases ho
/-- list of truth values -/
def bools : List D → Option (List Bool)
  | [] => some []
  | .bl b :: r => (bools r).map (b :: ·)
  | _ :: _ => none
theorem RVs.bools {K : Kx} {F : Hp} {φ : List Addr} : ∀ {ds : List D} {vs : List V} {bs : List Bool}, RVs K F φ ds vs → Mp.bools ds = some bs → vs = bs.map V.bl
  | [], _, _, .nil, e => by
    cases e
    rfl
  | d :: ds, _, bs, .cons r q, e => by
    cases d with
    | bl b =>
      unfold Mp.bools at e
      cases z : Mp.bools ds with
      | none => rw [z] at e; cases e
      | some cs =>
        rw [z] at e
        cases e
        cases r
        rw [RVs.bools q z]
        rfl
    | _ => cases e
def allO : O1 := fun x _ => match x with
  | .lst xs => (bools xs).map fun bs => .bl (bs.all id)
  | _ => none
def anyO : O1 := fun x _ => match x with
  | .lst xs => (bools xs).map fun bs => .bl (bs.any id)
  | _ => none
theorem c_all (hc : X.calm = true) : CallR X (.builtin "all") (rC1 p allO) := by
  intro pins s σ H xs us Q I r0 h
  obtain ⟨v, rfl, σ', g, s', d, z, r, a1, ho, f⟩ := h
  unfold allO at ho
  split at ho
  · obtain ⟨a, vs, rfl, h1, h2⟩ := a1.lst r.m
    cases hz : bools _ with
    | none => rw [hz] at ho; cases ho
    | some bs =>
      rw [hz] at ho
      cases ho
      exact cr_all hc pins s σ H _ us Q I r0 ⟨a, bs, rfl, SqL.of (by rw [← h2.bools hz]; exact h1), f.now r (.bl _)⟩
  · cases ho
theorem c_any (hc : X.calm = true) : CallR X (.builtin "any") (rC1 p anyO) := by
  intro pins s σ H xs us Q I r0 h
  obtain ⟨v, rfl, σ', g, s', d, z, r, a1, ho, f⟩ := h
  unfold anyO at ho
  split at ho
  · obtain ⟨a, vs, rfl, h1, h2⟩ := a1.lst r.m
    cases hz : bools _ with
    | none => rw [hz] at ho; cases ho
    | some bs =>
      rw [hz] at ho
      cases ho
      exact cr_any hc pins s σ H _ us Q I r0 ⟨a, bs, rfl, SqL.of (by rw [← h2.bools hz]; exact h1), f.now r (.bl _)⟩
  · cases ho
def tupleO : O1 := fun x _ => match x with
  | .lst xs => some (.tup xs)
  | .tup xs => some (.tup xs)
  | _ => none
theorem c_tuple : CallR X (.type "tuple") (rC1 p tupleO) := by
  intro pins s σ H xs us Q I r0 h
  obtain ⟨v, rfl, σ', g, s', d, z, r, a1, ho, f⟩ := h
  unfold tupleO at ho
  split at ho
  · cases ho
    obtain ⟨a, vs, rfl, h1, h2⟩ := a1.lst r.m
    exact call_tuple_of pins s σ H _ us Q I r0 ⟨a, vs, rfl, .inl ⟨SqL.of h1, fun q hq => f.tup r h2 hq⟩⟩
  · cases ho
    obtain ⟨a, vs, rfl, h1, h2⟩ := a1.tup r.m
    have back := a1.tupV
    exact call_tuple_of pins s σ H _ us Q I r0 ⟨a, vs, rfl, .inr ⟨h1, f.now r back⟩⟩
  · cases ho
/-- list(x): frozen at once -/
def listO : O1 := fun x _ => match x with
  | .lst xs => some (.lst xs)
  | .tup xs => some (.lst xs)
  | _ => none
theorem c_list : CallR X (.type "list") (rC1 p listO) := by
  intro pins s σ H xs us Q I r0 h
  obtain ⟨v, rfl, σ', g, s', d, z, r, a1, ho, f⟩ := h
  unfold listO at ho
  split at ho
  · cases ho
    obtain ⟨a, vs, rfl, h1, h2⟩ := a1.lst r.m
    exact call_list_of pins s σ H _ us Q I r0 ⟨a, vs, rfl, .inl (SqL.of h1), fun q hq => f.lst r h2 hq⟩
  · cases ho
    obtain ⟨a, vs, rfl, h1, h2⟩ := a1.tup r.m
    exact call_list_of pins s σ H _ us Q I r0 ⟨a, vs, rfl, .inr h1, fun q hq => f.lst r h2 hq⟩
  · cases ho
/-- repr -/
def reprO : O1 := fun x _ => match x.py with
  | some y => if y.showable && decide (y.depth ≤ 60) && decide (y.shown.length ≤ 10000000) && !y.hasDict then some (.str y.shown) else none
  | none => none
end
end Mp

set_option Elab.async false
set_option linter.all false
set_option maxRecDepth 100000
set_option maxHeartbeats 4000000
namespace Mp
open PySem PySem.Spec L2
open PyProof.Rows hiding St

/-! ### isinstance -/
inductive Tg where
  | non | bl | int | str | tup | lst | dct
def Tg.name : Tg → String
  | .non => "NoneType" | .bl => "bool" | .int => "int" | .str => "str" | .tup => "tuple" | .lst => "list" | .dct => "dict"
inductive Ty where
  | int | bool | str | tuple | list | dict
def Ty.name : Ty → String
  | .int => "int" | .bool => "bool" | .str => "str" | .tuple => "tuple" | .list => "list" | .dict => "dict"
def isTy : Tg → Ty → Bool
  | .int, .int => true | .bl, .int => true | .bl, .bool => true | .str, .str => true | .tup, .tuple => true | .lst, .list => true | .dct, .dict => true
  | _, _ => false
theorem kit_is : ∀ (t : Tg) (T : Ty), kitB t.name T.name = some (isTy t T) := by
  intro t T
  cases t <;> cases T <;> decide +kernel
def D.tg : D → Option Tg
  | .non => some .non | .bl _ => some .bl | .int _ => some .int | .str _ => some .str | .tup _ => some .tup | .lst _ => some .lst | .ref _ => some .lst | .dct => some .dct
  | _ => none
def isiO (T : Ty) : O1 := fun x _ => x.tg.map fun t => .bl (isTy t T)
def isi2O (T U : Ty) : O1 := fun x _ => x.tg.map fun t => .bl (isTy t T || isTy t U)
theorem tyX_of {K : Kx} {g : G} {H : Hp} {s : S} {x : D} {v : V} {t : Tg} (m : RM K g H s.ms) (r : RVp K g H x v) (h : x.tg = some t) : TyX K.K H v (.type t.name) := by
  cases x with
  | non => cases r.non; cases h; exact .base .non
  | bl b => cases r.bl; cases h; exact .base (.bl b)
  | int i => cases r.int; cases h; exact .base (.int i)
  | str y => cases r.str; cases h; exact .base (.str y)
  | tup xs =>
    obtain ⟨a, vs, rfl, h1, h2⟩ := r.tup m
    cases h
    rcases h1 with (h1 | ⟨o, h1⟩) | ⟨o, its, n, h1, h3, _⟩
    · exact .base (.tup h1)
    · exact .fTuple h1
    · exact .kTuple h1 h3
  | lst xs =>
    obtain ⟨a, vs, rfl, h1, h2⟩ := r.lst m
    cases h
    exact .base (.lst h1)
  | scr xs => cases h
  | dct =>
    obtain ⟨a, rfl, h1⟩ := r.dct m
    cases h
    exact .base (.dK h1)
  | ref n =>
    obtain ⟨a, ds, vs, rfl, h1, h2, h3, h4⟩ := r.ref m
    cases h
    exact .base (.lst h3)
  | obj a => cases h
  | clo L n => cases h
section
variable {X : Cx} {lt : Nat → LamI} {p : Pm ⟨X.K, lt⟩} {e a b c : Expr} {es : List Expr} {rest : List Expr} {pos : Pos} {fa fb fc : M D} {ba bb : M Bool}
theorem d_isi {T : Ty} {tn : Str} {pf pt : Pos} (hg : Gl X "isinstance") (hm : X.mg "isinstance" = none) (hg2 : Gl X tn) (hm2 : X.mg tn = none) (hv : bootBuiltins tn = some (.type T.name)) (ha : PE X a (tP p fa)) (hn : tn ≠ "__name__" := by decide) (hdb : (tn == ("__debug__" : Str)) = false := by decide)
    (he : starEach (a :: [.Name tn pt]) X.env = (false, eval a X.env) :: starEach [.Name tn pt] X.env := by rfl) (he2 : starEach [.Name tn pt] X.env = (false, eval (.Name tn pt) X.env) :: starEach [] X.env := by rfl) (hpl : (backTo pos (starEach [.Name tn pt] X.env)).any (·.1) = false := by rfl) :
    PE X (.Call (.Name "isinstance" pf) [a, .Name tn pt] [] pos) (tD p (op1 (isiO T) fa)) :=
  (pe_callB (x := "isinstance") call_isi hg hm (by decide +kernel) (pa_cons ha (pa_cons (pe_bltn (v := .ty T.name) hg2 hm2 hv rfl hn hdb) pa_nil he2) he) (by decide) (by decide) he hpl).imp fun σ H Q q => by
    obtain ⟨g, s, r, q⟩ := use1 q
    refine ⟨g, s, r, Post.mono q fun v H1 ⟨σ', g1, s1, x, d, r1, a1, ho, f⟩ => ?_⟩
    unfold isiO at ho
    cases z : x.tg with
    | none => rw [z] at ho; cases ho
    | some t =>
      rw [z] at ho
      cases ho
      exact ⟨v, .ty T.name, _, _, isTy t T, rfl, .ty _, tyX_of r1.m a1 z, kit_ty (kit_is t T), f.now r1 (.bl _)⟩
theorem d_isi2 {T U : Ty} {tn un : Str} {pf pt pu pp : Pos} {kt} (hg : Gl X "isinstance") (hm : X.mg "isinstance" = none) (hg2 : Gl X tn) (hm2 : X.mg tn = none) (hv : bootBuiltins tn = some (.type T.name)) (hg3 : Gl X un) (hm3 : X.mg un = none) (hv3 : bootBuiltins un = some (.type U.name)) (ha : PE X a (tP p fa))
    (hn : tn ≠ "__name__" := by decide) (hdb : (tn == ("__debug__" : Str)) = false := by decide) (hn3 : un ≠ "__name__" := by decide) (hdb3 : (un == ("__debug__" : Str)) = false := by decide)
    (he : starEach (a :: [.Tuple [.Name tn pt, .Name un pu] kt pp]) X.env = (false, eval a X.env) :: starEach [.Tuple [.Name tn pt, .Name un pu] kt pp] X.env := by rfl) (he2 : starEach [.Tuple [.Name tn pt, .Name un pu] kt pp] X.env = (false, eval (.Tuple [.Name tn pt, .Name un pu] kt pp) X.env) :: starEach [] X.env := by rfl)
    (he3 : starEach [.Name tn pt, .Name un pu] X.env = (false, eval (.Name tn pt) X.env) :: starEach [.Name un pu] X.env := by rfl) (he4 : starEach [.Name un pu] X.env = (false, eval (.Name un pu) X.env) :: starEach [] X.env := by rfl)
    (hpl : (backTo pos (starEach [.Tuple [.Name tn pt, .Name un pu] kt pp] X.env)).any (·.1) = false := by rfl) :
    PE X (.Call (.Name "isinstance" pf) [a, .Tuple [.Name tn pt, .Name un pu] kt pp] [] pos) (tD p (op1 (isi2O T U) fa)) :=
  (pe_callB (x := "isinstance") call_isiT hg hm (by decide +kernel) (pa_cons ha (pa_cons (pe_tup (pa_cons (pe_bltn (v := .ty T.name) hg2 hm2 hv rfl hn hdb) (pa_cons (pe_bltn (v := .ty U.name) hg3 hm3 hv3 rfl hn3 hdb3) pa_nil he4) he3)) pa_nil he2) he) (by decide) (by decide) he hpl).imp fun σ H Q q => by
    obtain ⟨g, s, r, q⟩ := use1 q
    refine ⟨g, s, r, Post.mono q fun v H1 ⟨σ', g1, s1, x, d, r1, a1, ho, f⟩ => ?_⟩
    unfold isi2O at ho
    cases z : x.tg with
    | none => rw [z] at ho; cases ho
    | some t =>
      rw [z] at ho
      cases ho
      refine ⟨by show 2 ≤ sizeLine; decide, fun q hq => ?_⟩
      have r2 := r1.add hq (.tup [.ty T.name, .ty U.name])
      have e2 := r1.addE hq (.tup [.ty T.name, .ty U.name])
      refine ⟨v, q, _, _, _, isTy t T || isTy t U, rfl, upd_same, .cons (.ty _) (.cons (.ty _) .nil), tyX_of r2.m (a1.ext e2) z, ?_, f _ _ _ r2 e2 (.bl _)⟩
      refine kitAny_cons (kit_ty (kit_is t T)) (fun h => ?_) fun h => by rw [h]; rfl
      rw [h, Bool.false_or]
      exact kitAny_cons (kit_ty (kit_is t U)) (fun h => by rw [h]; exact kitAny_nil) fun h => h
theorem szR {n : Nat} (h : n ≤ 10000000) : n ≤ sizeLine := Nat.le_trans h (by decide)
/-! ### repr -/
theorem c_repr (hgd : X.A.guards = some []) (hu : X.A.units + 64 < cLine) : CallR X (.builtin "repr") (rC1 p reprO) := by
  intro pins s σ H xs us Q I r0 h
  obtain ⟨v, rfl, σ', g, s', d, z, r, a1, ho, f⟩ := h
  obtain ⟨u, rfl, ru⟩ := vals1 r0
  unfold reprO at ho
  cases hp : d.py with
  | none => rw [hp] at ho; cases ho
  | some y =>
    rw [hp] at ho
    have ho : (if y.showable && decide (y.depth ≤ 60) && decide (y.shown.length ≤ 10000000) && !y.hasDict then some (D.str y.shown) else none) = some z := ho
    by_cases hc : (y.showable && decide (y.depth ≤ 60) && decide (y.shown.length ≤ 10000000) && !y.hasDict) = true
    · rw [if_pos hc] at ho
      cases ho
      simp only [Bool.and_eq_true, decide_eq_true_eq, Bool.not_eq_true'] at hc
      obtain ⟨⟨⟨h1, h2⟩, h3⟩, h4⟩ := hc
      have dp := a1.dp r.m hp
      have fin : ∀ {h' : Heap} {u' : Tok} {tk : Nat}, (∀ b o, s.heap.get? b = some o → h'.get? b = some o) → EP X pins σ Q (.str y.shown u') { s with heap := h', toks := tk } := fun k => ⟨.str y.shown, H, I.kept k, ⟨_, rfl⟩, f.now r (.str _)⟩
      cases dp with
      | non =>
        cases ru
        exact PySem.P.repr_of_none (fin (h' := s.heap) fun _ _ e => e)
      | bl b =>
        cases ru
        exact PySem.P.repr_of_bool (fin (h' := s.heap) fun _ _ e => e)
      | int i =>
        obtain ⟨t, rfl⟩ := ru
        have h1 : i.natAbs.log2 < 1920 := by simpa [PyData.showable] using h1
        exact PySem.P.repr_of_int h1 (fin (h' := s.heap) fun _ _ e => e)
      | str x =>
        obtain ⟨t, rfl⟩ := ru
        exact PySem.P.repr_of_str (fin (h' := s.heap) fun _ _ e => e) (szR h3)
      | @lst a xs ds hs ha =>
        obtain ⟨as, rd⟩ := Dp.reads I (.list ds) (.ref a) u (.lst hs ha) ru
        cases ru
        exact repr_of_reads' rd h1 (fun hd => by rw [h4] at hd; cases hd) hgd (by omega) (fun _ _ e => e) (fun h' u' tk k => fin k) (szR h3)
      | @tup a xs ds hs ha =>
        obtain ⟨as, rd⟩ := Dp.reads I (.tuple ds) (.ref a) u (.tup hs ha) ru
        cases ru
        exact repr_of_reads' rd h1 (fun hd => by rw [h4] at hd; cases hd) hgd (by omega) (fun _ _ e => e) (fun h' u' tk k => fin k) (szR h3)
    · rw [if_neg hc] at ho
      cases ho
/-! ### statements -/
variable {st : Stmt} {sts : List Stmt} {f1 f2 : M Fl}
def seqS (f h : M Fl) : M Fl := bnd f fun x => match x with
  | .nx => h
  | x => ret x
theorem s_nil : PSs X [] (tS p (ret .nx)) := pss_nil.imp fun D σ H ⟨g, s, r, q⟩ => q σ H g r (.refl g H)
theorem s_one (h : PS X st (tS p f1)) : PSs X [st] (tS p f1) := pss_one h
theorem PstS.seq {K : Kx} {p : Pm K} {f h : M Fl} {g : G} {H : Hp} {s : S} {D : Ends} (q : PstS p (seqS f h s) g H D) : PstS p (f s) g H { D with nx := fun σ' H' => tS p h D σ' H' } := by
  unfold seqS Mp.bnd at q
  cases z : f s with
  | stuck => rw [z] at q; exact q
  | err c fs s' => rw [z] at q; exact q
  | ok x s' =>
    rw [z] at q
    cases x with
    | nx => exact fun σ' H' g' r e => ⟨g', s', r, PstS.pre e q⟩
    | ret d => exact q
    | bk => exact q
    | ct => exact q
theorem s_cons (h1 : PS X st (tS p f1)) (h2 : PSs X sts (tS p f2)) : PSs X (st :: sts) (tS p (seqS f1 f2)) := (pss_cons h1 h2).imp fun D σ H ⟨g, s, r, q⟩ => ⟨g, s, r, q.seq⟩
theorem s_pass : PS X (.Pass pos) (tS p (ret .nx)) := ps_pass.imp fun D σ H ⟨g, s, r, q⟩ => q σ H g r (.refl g H)
theorem s_break : PS X (.Break pos) (tS p (ret .bk)) := ps_break.imp fun D σ H ⟨g, s, r, q⟩ => q σ H g r (.refl g H)
theorem s_continue : PS X (.Continue pos) (tS p (ret .ct)) := ps_continue.imp fun D σ H ⟨g, s, r, q⟩ => q σ H g r (.refl g H)
theorem s_doc {x j pos'} : PS X (.Expr (.Constant (.str x) j pos) pos') (tS p (ret .nx)) := ps_doc.imp fun D σ H ⟨g, s, r, q⟩ => q σ H g r (.refl g H)
def retS (f : M D) : M Fl := bnd f fun d => ret (.ret d)
theorem s_ret (ha : PE X a (tD p fa)) : PS X (.Return (some a) pos) (tS p (retS fa)) := (ps_ret ha).imp fun D σ H ⟨g, s, r, q⟩ =>
  ⟨g, s, r, Post.mono (PstS.bnd (A := AV ⟨X.K, lt⟩) q) fun v H1 ⟨g1, s1, d, r1, e1, a1, q1⟩ => q1 v σ H1 g1 r1 (.refl _ _) a1⟩
theorem s_retN : PS X (.Return none pos) (tS p (ret (.ret .non))) := ps_retN.imp fun D σ H ⟨g, s, r, q⟩ => q .non σ H g r (.refl g H) .non
def dropS (f : M D) : M Fl := bnd f fun _ => ret .nx
theorem s_expr (ha : PE X a (tD p fa)) (hs : swapsWith a none pos.line X.env = pure false := by rfl) : PS X (.Expr a pos) (tS p (dropS fa)) := (ps_expr ha hs).imp fun D σ H ⟨g, s, r, q⟩ =>
  ⟨g, s, r, Post.mono (PstS.bnd (A := AV ⟨X.K, lt⟩) q) fun v H1 ⟨g1, s1, d, r1, e1, a1, q1⟩ => q1 σ H1 g1 r1 (.refl _ _)⟩
def ifS (t : M Bool) (f h : M Fl) : M Fl := bnd t fun b => if b then f else h
theorem s_if {st1 st2 : List Stmt} (hc : PT X c (tB p ba)) (ha : PSs X st1 (tS p f1)) (hb : PSs X st2 (tS p f2)) : PS X (.If c st1 st2 pos) (tS p (ifS ba f1 f2)) := (ps_if hc ha hb).imp fun D σ H ⟨g, s, r, q⟩ =>
  ⟨g, s, r, Post.mono (PstS.bnd (A := AB) q) fun v H1 ⟨g1, s1, d, r1, e1, a1, q1⟩ => by
    subst a1
    cases v with
    | true =>
      rw [if_pos rfl] at q1
      rw [if_pos rfl]
      exact ⟨g1, s1, r1, q1⟩
    | false =>
      rw [if_neg Bool.false_ne_true] at q1
      rw [if_neg Bool.false_ne_true]
      exact ⟨g1, s1, r1, q1⟩⟩
/-- code that is never come to -/
theorem s_never : PS X st (tS p stk) := ps_never.imp fun D σ H ⟨g, s, r, q⟩ => q.elim
theorem ss_never : PSs X sts (tS p stk) := pss_never.imp fun D σ H ⟨g, s, r, q⟩ => q.elim
/-! ### targets -/
abbrev Tgt := D → M Unit
def PstU {K : Kx} (p : Pm K) (r : R Unit) (g : G) (H : Hp) (Q : L2.St → Hp → Prop) : Prop := match r with
  | .ok _ s' => ∀ σ' H' g', RS p g' σ' H' s' → ExtS g H g' H' → Q σ' H'
  | .err c fs s' => ∀ σ' H' g' dx, RS p g' σ' H' s' → ExtS g H g' H' → REx K g' H' fs dx → p.W c dx σ' H'
  | .stuck => False
theorem PstU.pre {K : Kx} {p : Pm K} {g g1 : G} {H H1 : Hp} {r : R Unit} {Q : L2.St → Hp → Prop} (e : ExtS g H g1 H1) (h : PstU p r g H Q) : PstU p r g1 H1 Q := by
  cases r with
  | ok d s' => exact fun σ' H' g' a b => h σ' H' g' a (e.trans b)
  | err c fs s' => exact fun σ' H' g' dx a b c => h σ' H' g' dx a (e.trans b) c
  | stuck => exact h
theorem PstU.bnd {K : Kx} {p : Pm K} {g : G} {H : Hp} {s : S} {f : M Unit} {k : Unit → M Unit} {Q : L2.St → Hp → Prop} (q : PstU p (Mp.bnd f k s) g H Q) : PstU p (f s) g H fun σ' H' => ∃ g' s', RS p g' σ' H' s' ∧ ExtS g H g' H' ∧ PstU p (k () s') g' H' Q := by
  unfold Mp.bnd at q
  cases z : f s with
  | stuck => rw [z] at q; exact q
  | err c fs s' => rw [z] at q; exact q
  | ok x s' =>
    rw [z] at q
    exact fun σ' H' g' r e => ⟨g', s', r, e, PstU.pre e q⟩
/-- what a statement makes of a target's end -/
theorem PstU.nx {K : Kx} {p : Pm K} {g : G} {H : Hp} {s : S} {f : M Unit} {k : Unit → M Fl} {D : Ends} (q : PstS p (Mp.bnd f k s) g H D) : PstU p (f s) g H fun σ' H' => ∃ g' s', RS p g' σ' H' s' ∧ ExtS g H g' H' ∧ PstS p (k () s') g' H' D := by
  unfold Mp.bnd at q
  cases z : f s with
  | stuck => rw [z] at q; exact q
  | err c fs s' => rw [z] at q; exact q
  | ok x s' =>
    rw [z] at q
    exact fun σ' H' g' r e => ⟨g', s', r, e, PstS.pre e q⟩
theorem PstU.mono {K : Kx} {p : Pm K} {g : G} {H : Hp} {r : R Unit} {Q Q' : L2.St → Hp → Prop} (h : PstU p r g H Q) (w : ∀ σ' H', Q σ' H' → Q' σ' H') : PstU p r g H Q' := by
  cases r with
  | ok d s' => exact fun σ' H' g' a b => w _ _ (h σ' H' g' a b)
  | err c fs s' => exact h
  | stuck => exact h
/-- an assignment to a target -/
def gG {K : Kx} (p : Pm K) (t : Tgt) : TG := fun v σ H Q => ∃ g s d, RS p g σ H s ∧ RV K g.F g.φ d v ∧ PstU p (t d s) g H Q
def gGs {K : Kx} (p : Pm K) (t : List D → M Unit) : TGs := fun vs σ H Q => ∃ g s ds, RS p g σ H s ∧ RVs K g.F g.φ ds vs ∧ PstU p (t ds s) g H Q
theorem _root_.L2.PG.imp {X : Cx} {e : Expr} {t t' : TG} (h : PG X e t) (w : ∀ v σ H Q, t' v σ H Q → t v σ H Q) : PG X e t' := ⟨fun pins s σ H v u Q I r q => h.run pins s σ H v u Q I r (w v σ H Q q)⟩
theorem _root_.L2.PGs.imp {X : Cx} {es : List Expr} {t t' : TGs} (h : PGs X es t) (w : ∀ v σ H Q, t' v σ H Q → t v σ H Q) : PGs X es t' := ⟨fun pins s σ H v u Q I r q => h.run pins s σ H v u Q I r (w v σ H Q q)⟩
theorem g_name {i : Nat} {x : Str} (hN : X.N.Nodup) (hi : X.N[i]? = some x) (hx : Loc X.env.scope x) (hf : X.fn x = true ∨ X.env.scope.names.lookup x = some .local := by first | exact .inl rfl | exact .inr rfl | assumption) : PG X (.Name x pos) (gG p (setv i)) :=
  (pg_name hN hi hx hf).imp fun v σ H Q ⟨g, s, d, r, rv, q⟩ => by
    unfold setv at q
    by_cases hl : i < s.env.length
    · rw [if_pos hl] at q
      exact q _ H _ (r.setv hl rv) (g.dropE H i).s
    · rw [if_neg hl] at q
      exact q.elim
def tgtN : List D → M Unit := fun ds => match ds with
  | [] => ret ()
  | _ => stk
def tgtC (t : Tgt) (u : List D → M Unit) : List D → M Unit := fun ds => match ds with
  | d :: r => bnd (t d) fun _ => u r
  | [] => stk
theorem gs_nil : PGs X [] (gGs p tgtN) := pgs_nil.imp fun vs σ H Q ⟨g, s, ds, r, rv, q⟩ => by
  cases rv with
  | nil => exact ⟨rfl, q σ H g r (.refl _ _)⟩
  | cons _ _ => exact q.elim
theorem gs_cons {t : Tgt} {u : List D → M Unit} (h1 : PG X e (gG p t)) (h2 : PGs X es (gGs p u)) (hs : (assignEach (e :: es) X.env).map (·.2) = assign e X.env :: (assignEach es X.env).map (·.2) := by rfl) : PGs X (e :: es) (gGs p (tgtC t u)) := (pgs_cons h1 h2 hs).imp fun vs σ H Q ⟨g, s, ds, r, rv, q⟩ => by
  cases rv with
  | nil => exact q.elim
  | @cons d v ds vs r1 r2 => exact ⟨v, vs, rfl, g, s, d, r, r1, (PstU.bnd q).mono fun σ' H' ⟨g', s', r', e', q'⟩ => ⟨g', s', ds, r', e'.rvs r2, q'⟩⟩
/-- (a, b, ..) = a tuple -/
def tgtT (n : Nat) (u : List D → M Unit) : Tgt := fun d => match d with
  | .tup xs => if xs.length = n then u xs else stk
  | _ => stk
theorem g_tup {k n : Nat} {u : List D → M Unit} (hc : X.calm = true) (h : PGs X es (gGs p u)) (hn : (assignEach es X.env).length = n := by rfl) (hst : (assignEach es X.env).findIdx? (·.1) = none := by rfl) : PG X (.Tuple es k pos) (gG p (tgtT n u)) :=
  (pg_tup hc h hn hst).imp fun v σ H Q ⟨g, s, d, r, rv, q⟩ => by
    unfold tgtT at q
    split at q
    · rename_i xs
      by_cases hl : xs.length = n
      · rw [if_pos hl] at q
        cases rv with
        | @tup a vs _ h1 h2 => exact ⟨a, vs, rfl, SqT.up r.m.sub h1, by rw [← h2.length]; exact hl, g, s, xs, r, h2, q⟩
      · rw [if_neg hl] at q
        exact q.elim
    · exact q.elim
/-- target = value -/
def asgS (f : M D) (t : Tgt) : M Fl := bnd f fun d => bnd (t d) fun _ => ret .nx
theorem asg_use {K : Kx} {p : Pm K} {t : Tgt} {D : Ends} {σ : L2.St} {H : Hp} (q : tS p (asgS fa t) D σ H) : tAsg (tD p fa) (gG p t) D σ H := by
  obtain ⟨g, s, r, q⟩ := q
  exact ⟨g, s, r, Post.mono (PstS.bnd (A := AV K) q) fun v H1 ⟨g1, s1, d, r1, e1, a1, q1⟩ => ⟨g1, s1, d, r1, a1, (PstU.nx q1).mono fun σ' H' ⟨g', s', r', e', q'⟩ => q' σ' H' g' r' (.refl _ _)⟩⟩
theorem s_asg {tg : Expr} {t : Tgt} (ha : PE X a (tD p fa)) (hg : PG X tg (gG p t)) (hs : swapsWithSole [tg] a pos.line X.env = pure false := by rfl) (hw : swappedStores [tg] a X.env = pure none := by rfl)
    (h1 : (assignEach [tg] X.env).map (·.2) = [assign tg X.env] := by rfl) : PS X (.Assign [tg] a pos) (tS p (asgS fa t)) := (ps_asg ha hg hs hw h1).imp fun D σ H q => asg_use q
/-- name = value -/
theorem s_set {i : Nat} {x : Str} {pos' : Pos} (hN : X.N.Nodup) (hi : X.N[i]? = some x) (hx : Loc X.env.scope x) (ha : PE X a (tD p fa)) (hs : swapsWith a (some (.Name x pos')) pos.line X.env = pure false := by rfl) (hf : X.fn x = true ∨ X.env.scope.names.lookup x = some .local := by first | exact .inl rfl | exact .inr rfl | assumption) :
    PS X (.Assign [.Name x pos'] a pos) (tS p (asgS fa (setv i))) := (ps_set hN hi hx ha hs hf).imp fun D σ H q => by
  obtain ⟨g, s, r, q⟩ := q
  refine ⟨g, s, r, Post.mono (PstS.bnd (A := AV ⟨X.K, lt⟩) q) fun v H1 ⟨g1, s1, d, r1, e1, a1, q1⟩ => ?_⟩
  have q1 := PstU.nx q1
  unfold setv at q1
  by_cases hl : i < s1.env.length
  · rw [if_pos hl] at q1
    obtain ⟨g', s', r', e', q'⟩ := q1 _ H1 _ (r1.setv hl a1) (g1.dropE H1 i).s
    exact q' _ _ _ r' (.refl _ _)
  · rw [if_neg hl] at q1
    exact q1.elim
/-- name = a new list that this slot alone knows -/
def ownS (f : M (List D)) (i : Nat) : M Fl := bnd f fun xs => bnd (setown i xs) fun _ => ret .nx
theorem s_own {i : Nat} {x : Str} {pos' : Pos} {f : M (List D)} (hN : X.N.Nodup) (hi : X.N[i]? = some x) (hx : Loc X.env.scope x) (ha : PE X a (tF p f)) (hs : swapsWith a (some (.Name x pos')) pos.line X.env = pure false := by rfl) (hf : X.fn x = true ∨ X.env.scope.names.lookup x = some .local := by first | exact .inl rfl | exact .inr rfl | assumption) :
    PS X (.Assign [.Name x pos'] a pos) (tS p (ownS f i)) := (ps_set hN hi hx ha hs hf).imp fun D σ H q => by
  obtain ⟨g, s, r, q⟩ := q
  refine ⟨g, s, r, ?_⟩
  unfold ownS bnd at q
  cases z : f s with
  | stuck => rw [z] at q; exact q
  | err c fs s' => rw [z] at q; exact fun H' g' dx a b c => q σ H' g' dx a b.s c
  | ok ds s1 =>
    rw [z] at q
    intro v H1 g1 r1 e1 ⟨a1, vs, ev, rv, ha1, hf1, hp1, ho1, hn1⟩
    subst ev
    have q : PstS p (bnd (setown i ds) (fun _ => ret .nx) s1) g H D := q
    unfold bnd setown at q
    by_cases hl : i < s1.env.length
    · rw [if_pos hl] at q
      exact q _ _ _ (r.setown r1 e1.s hl ha1 rv hf1 hp1 ho1 hn1) (e1.s.take hn1)
    · rw [if_neg hl] at q
      exact q.elim
/-- a new list becomes an identity list -/
def refd (f : M (List D)) : M D := bnd f fun xs s => .ok (.ref s.ms.length) { s with ms := s.ms ++ [xs] }
theorem d_ref {f : M (List D)} (h : PE X e (tF p f)) : PE X e (tD p (refd f)) := h.imp fun σ H Q ⟨g, s, r, q⟩ => ⟨g, s, r, by
  unfold refd bnd at q
  cases z : f s with
  | stuck => rw [z] at q; exact q
  | err c fs s' => rw [z] at q; exact q
  | ok ds s1 =>
    rw [z] at q
    intro v H1 g1 r1 e1 ⟨a1, vs, ev, rv, ha1, hf1, hp1, ho1, hn1⟩
    subst ev
    have q : ∀ v H' g', RS p g' σ H' { s1 with ms := s1.ms ++ [ds] } → Ext g H g' H' → RV ⟨X.K, lt⟩ g'.F g'.φ (.ref s1.ms.length) v → Q v H' := q
    obtain ⟨r2, e2⟩ := r.newref r1 e1.s ha1 rv hf1 hp1 ho1 hn1
    refine q _ _ _ r2 ⟨e2.fr, e2.ph, e2.new, e2.fnew, e2.nom, e2.there, e1.keep⟩ (.ref ?_)
    show (g1.φ ++ [a1])[s1.ms.length]? = some a1
    rw [r1.m.mlen]
    simp⟩
/-! ### a slot's own list changes -/
def ownOf (s : S) (i : Nat) : Option (List D) := match s.env[i]? with
  | some (.own xs) => some xs
  | _ => none
def appS (i : Nat) (f : M D) : M Fl := fun s0 => match ownOf s0 i with
  | none => .stuck
  | some _ => bnd f (fun d s => match ownOf s i with
    | some xs => if xs.length < 100000 then .ok .nx { s with env := s.env.set i (.own (xs ++ [d])) } else .stuck
    | none => .stuck) s0
theorem ownOf_at {s : S} {i : Nat} {xs : List D} (h : ownOf s i = some xs) : s.env[i]? = some (Sl.own xs) := by
  unfold ownOf at h
  split at h
  · rename_i h1
    cases h
    exact h1
  · cases h
theorem own_addr {K : Kx} {p : Pm K} {g : G} {σ : L2.St} {H : Hp} {s : S} {i : Nat} {xs : List D} (r : RS p g σ H s) (h : ownOf s i = some xs) : ∃ a vs, g.ω i = some a ∧ σ[i]? = some (some (.ref a)) ∧ H a = some (.lst vs) ∧ RVs K g.F g.φ xs vs ∧ g.F a = none ∧ a ∉ g.φ := r.f.own i xs (ownOf_at h)
theorem szT {n : Nat} (h : n < 100000) : n < sizeLine := Nat.lt_of_lt_of_le h (by decide)
theorem s_append {i : Nat} {x : Str} {px pa : Pos} (hN : X.N[i]? = some x) (hv : Vis X.env.scope x) (ha : PE X a (tD p fa)) (hs : swapsWith (.Call (.Attribute (.Name x px) "append" pa) [a] [] pos) none pos.line X.env = pure false := by rfl)
    (hbase : attributeBase (.Name x px) "append" X.env (eval (.Name x px) X.env) = eval (.Name x px) X.env := by rfl)
    (hfew : ((backTo pos (starEach (a :: []) X.env)).all (fun x => !x.1) && (backToKw pos (keywordEach [] X.env)).all (fun x => x.1.isSome) && decide ((a :: []).length + ([] : List Keyword).length + (if ([] : List Keyword).isEmpty then 0 else 1) < 30)) = true := by rfl)
    (hline : (pa.endLine == pos.line) = true := by rfl) (hst : starEach (a :: []) X.env = (false, eval a X.env) :: starEach [] X.env := by rfl)
    (hd : (x == ("__debug__" : Str)) = false := by decide) (hcd : (x == ("__classdict__" : Str)) = false := by decide) : PS X (.Expr (.Call (.Attribute (.Name x px) "append" pa) [a] [] pos) pos) (tS p (appS i fa)) :=
  (ps_expr (pe_bm PySem.F.plainAttrs_list PySem.F.slot_list_append PySem.F.type_list_append mt_append (pe_var hN hv hd hcd) (pa_cons ha pa_nil hst) hbase hfew hline hst) hs).imp fun D σ H ⟨g, s, r, q⟩ => by
    unfold appS at q
    cases z : ownOf s i with
    | none => rw [z] at q; exact q.elim
    | some xs =>
      rw [z] at q
      obtain ⟨a0, vs0, _, h2, h3, h4, _, _⟩ := own_addr r z
      refine ⟨.ref a0, h2, .inl ⟨rfl, _, SqL.of h3⟩, g, s, r, Post.mono (PstS.bnd (A := AV ⟨X.K, lt⟩) q) fun v H1 ⟨g1, s1, d, r1, e1, a1, q1⟩ => ?_⟩
      cases z1 : ownOf s1 i with
      | none => rw [z1] at q1; exact q1.elim
      | some ys =>
        rw [z1] at q1
        obtain ⟨a2, vs2, k1, k2, k3, k4, k5, k6⟩ := own_addr r1 z1
        rw [h2] at k2
        cases k2
        have q1 : PstS p (if ys.length < 100000 then .ok .nx { s1 with env := s1.env.set i (.own (ys ++ [d])) } else .stuck) g1 H1 D := q1
        by_cases hl : ys.length < 100000
        · rw [if_pos hl] at q1
          exact ⟨a0, vs2, v, rfl, rfl, k3, szT (by rw [← k4.length]; exact hl), q1 σ _ g1 (r1.ownw (ownOf_at z1) k1 h2 k3 (k4.append (.cons a1 .nil)) k5 k6) (g1.ownE k1)⟩
        · rw [if_neg hl] at q1
          exact q1.elim
def extS (i : Nat) (f : M D) : M Fl := fun s0 => match ownOf s0 i with
  | none => .stuck
  | some _ => bnd f (fun d s => match ownOf s i, d with
    | some xs, .lst ys => if xs.length + ys.length ≤ 100000 then .ok .nx { s with env := s.env.set i (.own (xs ++ ys)) } else .stuck
    | _, _ => .stuck) s0
theorem s_extend {i : Nat} {x : Str} {px pa : Pos} (hN : X.N[i]? = some x) (hv : Vis X.env.scope x) (ha : PE X a (tD p fa)) (hs : swapsWith (.Call (.Attribute (.Name x px) "extend" pa) [a] [] pos) none pos.line X.env = pure false := by rfl)
    (hbase : attributeBase (.Name x px) "extend" X.env (eval (.Name x px) X.env) = eval (.Name x px) X.env := by rfl)
    (hfew : ((backTo pos (starEach (a :: []) X.env)).all (fun x => !x.1) && (backToKw pos (keywordEach [] X.env)).all (fun x => x.1.isSome) && decide ((a :: []).length + ([] : List Keyword).length + (if ([] : List Keyword).isEmpty then 0 else 1) < 30)) = true := by rfl)
    (hline : (pa.endLine == pos.line) = true := by rfl) (hst : starEach (a :: []) X.env = (false, eval a X.env) :: starEach [] X.env := by rfl)
    (hd : (x == ("__debug__" : Str)) = false := by decide) (hcd : (x == ("__classdict__" : Str)) = false := by decide) : PS X (.Expr (.Call (.Attribute (.Name x px) "extend" pa) [a] [] pos) pos) (tS p (extS i fa)) :=
  (ps_expr (pe_bm PySem.F.plainAttrs_list PySem.F.slot_list_extend PySem.F.type_list_extend mt_extend (pe_var hN hv hd hcd) (pa_cons ha pa_nil hst) hbase hfew hline hst) hs).imp fun D σ H ⟨g, s, r, q⟩ => by
    unfold extS at q
    cases z : ownOf s i with
    | none => rw [z] at q; exact q.elim
    | some xs =>
      rw [z] at q
      obtain ⟨a0, vs0, _, h2, h3, h4, _, _⟩ := own_addr r z
      refine ⟨.ref a0, h2, .inl ⟨rfl, _, SqL.of h3⟩, g, s, r, Post.mono (PstS.bnd (A := AV ⟨X.K, lt⟩) q) fun v H1 ⟨g1, s1, d, r1, e1, a1, q1⟩ => ?_⟩
      cases z1 : ownOf s1 i with
      | none => rw [z1] at q1; exact q1.elim
      | some ys =>
        rw [z1] at q1
        cases d with
        | lst zs =>
          obtain ⟨a2, vs2, k1, k2, k3, k4, k5, k6⟩ := own_addr r1 z1
          rw [h2] at k2
          cases k2
          have q1 : PstS p (if ys.length + zs.length ≤ 100000 then .ok .nx { s1 with env := s1.env.set i (.own (ys ++ zs)) } else .stuck) g1 H1 D := q1
          by_cases hl : ys.length + zs.length ≤ 100000
          · rw [if_pos hl] at q1
            cases a1 with
            | @lst b ws _ w1 w2 =>
              refine ⟨a0, b, vs2, ws, rfl, rfl, k3, r1.m.sub _ _ w1, szL (by rw [← k4.length, ← w2.length]; exact hl), q1 σ _ g1 (r1.ownw (ownOf_at z1) k1 h2 k3 (k4.append w2) k5 k6) (g1.ownE k1)⟩
          · rw [if_neg hl] at q1
            exact q1.elim
        | _ => exact q1.elim
/-! ### o[i] = v, o an identity list -/
def setAt (o i d : D) : M Unit := fun s => match o, i with
  | .ref n, .int k => match s.ms[n]? with
    | some xs => match ixN xs.length k with
      | some j => .ok () { s with ms := s.ms.set n (xs.set j d) }
      | none => .stuck
    | none => .stuck
  | _, _ => .stuck
def tgtS (fo fi : M D) : Tgt := fun d => bnd fo fun o => bnd fi fun i => setAt o i d
theorem PstU.ofP {K : Kx} {p : Pm K} {σ : L2.St} {g : G} {H : Hp} {s : S} {f : M D} {k : D → M Unit} {Q : L2.St → Hp → Prop} (q : PstU p (Mp.bnd f k s) g H Q) :
    Post p σ (AP K) (f s) g H fun v H1 => ∃ g1 s1 x, RS p g1 σ H1 s1 ∧ Ext g H g1 H1 ∧ RVp K g1 H1 x v ∧ PstU p (k x s1) g1 H1 Q := by
  unfold Mp.bnd at q
  cases z : f s with
  | stuck => rw [z] at q; exact q
  | err c fs s' => rw [z] at q; exact fun H' g' dx a b c => q σ H' g' dx a b.s c
  | ok x s' =>
    rw [z] at q
    exact fun v H' g' r e a => ⟨g', s', x, r, e, a, PstU.pre e.s q⟩
theorem g_sub {o i : Expr} {fo fi : M D} (ho : PE X o (tP p fo)) (hi : PE X i (tP p fi))
    (ha : ∀ v, assign (.Subscript o i pos) X.env v = (do
      let ov ← holding [v] (eval o X.env)
      let iv ← holding [v, ov] (eval i X.env)
      standAt pos
      holding [v, ov, iv] (setItem ov iv v)
      release [v, ov, iv] []) := by intro _; rfl) : PG X (.Subscript o i pos) (gG p (tgtS fo fi)) := (pg_sub ho hi set_list ha).imp fun v σ H Q ⟨g, s, d, r, rv, q⟩ => by
  refine ⟨g, s, r, Post.mono (PstU.ofP (σ := σ) q) fun u H1 ⟨g1, s1, x, r1, e1, a1, q1⟩ => ?_⟩
  refine ⟨g1, s1, r1, Post.mono (PstU.ofP (σ := σ) q1) fun w H2 ⟨g2, s2, y, r2, e2, a2, q2⟩ => ?_⟩
  unfold setAt at q2
  cases x with
  | ref n =>
    cases y with
    | int k =>
      cases a2.int
      obtain ⟨a, ds, vs, rfl, k1, k2, k3, k4⟩ := (a1.ext e2).ref r2.m
      dsimp only at q2
      rw [k2] at q2
      dsimp only at q2
      cases z : ixN ds.length k with
      | none => rw [z] at q2; exact q2.elim
      | some j =>
        rw [z] at q2
        exact ⟨a, vs, k, j, rfl, rfl, k3, by rw [← k4.length]; exact z, q2 σ _ g2 (r2.refw k1 k2 (RVs.set (e2.rv (e1.rv rv)) j k4)) (g2.refE (List.mem_of_getElem? k1)).s⟩
    | _ => exact q2.elim
  | _ => exact q2.elim
end
end Mp

set_option Elab.async false
set_option linter.all false
set_option maxRecDepth 100000
set_option maxHeartbeats 4000000
namespace Mp
open PySem PySem.Spec L2
open PyProof.Rows hiding St

/-! ### sources: what iter() takes, by its kind -/
inductive KS where
  | lst (a : Addr) | tup (a : Addr) | txt (x : Str)
def KS.v : KS → V
  | .lst a => .ref a | .tup a => .ref a | .txt x => .str x
def chars (x : Str) : List V := x.cps.toList.map fun c => V.str ⟨#[c]⟩
def KS.at (K : PySem.W.Frag) (H : Hp) : KS → List V → Prop
  | .lst a, vs => SqL K H a vs
  | .tup a, vs => SqT K H a vs
  | .txt x, vs => vs = chars x
def KS.fp : KS → List Addr
  | .lst a => [a] | .tup a => [a] | .txt _ => []
/-- the iterator at turn i (t the text's token) -/
def KS.stt (t : Tok) : KS → Addr → Nat → Heap → Prop
  | .lst a, it, i, h => h.IsListIter it a i
  | .tup a, it, i, h => h.IsTupleIter it a i
  | .txt x, it, i, h => h.IsStrIter it (strIterType x) x t i
def KS.o (t : Tok) : KS → Obj
  | .lst a => { cls := .type "list_iterator", data := .fields #[.ref a, .int 0 0] }
  | .tup a => { cls := .type "tuple_iterator", data := .fields #[.ref a, .int 0 0] }
  | .txt x => { cls := .type (strIterType x), data := .fields #[.str x t, .int 0 0] }
def KS.u (t : Tok) : KS → Value
  | .lst a => .ref a | .tup a => .ref a | .txt x => .str x t
theorem KS.rel {k : KS} {u : Value} (h : RelV k.v u) : ∃ t, u = k.u t := by
  cases k with
  | lst a => cases h; exact ⟨0, rfl⟩
  | tup a => cases h; exact ⟨0, rfl⟩
  | txt x => exact h
theorem KS.first (k : KS) (t : Tok) {h : Heap} {it : Addr} (e : h.get? it = some (k.o t)) : k.stt t it 0 h := by
  cases k <;> exact ⟨_, e, rfl, rfl⟩
theorem KS.live (k : KS) (t : Tok) {h : Heap} {it : Addr} {i : Nat} (e : k.stt t it i h) : ∃ o, h.get? it = some o ∧ ∀ v, o.data ≠ .cell v := by
  cases k <;> (obtain ⟨o, e, c, d⟩ := e; exact ⟨o, e, fun v z => by rw [d] at z; cases z⟩)
theorem KS.keep (k : KS) (t : Tok) {h h' : Heap} {it : Addr} {i : Nat} (e : k.stt t it i h) (q : ∀ o, h.get? it = some o → h'.get? it = some o) : k.stt t it i h' := by
  cases k <;> (obtain ⟨o, e, c, d⟩ := e; exact ⟨o, q o e, c, d⟩)
def KS.P (vs : List V) (i : Nat) (u : Value) : Prop := ∃ v, vs[i]? = some v ∧ RelV v u
theorem Draws.imp {prog : Program} {w : World} {A : Around} {it : Addr} {fp : List Addr} {n : Nat} {P P' : Nat → Value → Prop} {St : Nat → Heap → Prop} (D : Draws prog w A it fp n P St) (h : ∀ i x, P i x → P' i x) : Draws prog w A it fp n P' St where
  live := D.live
  frame := D.frame
  item := fun i s Q E hi st hQ => D.item i s Q E hi st fun x h' tk hP => hQ x h' tk (h i x hP)
  done := D.done
/-- what a source draws, as things stand now -/
theorem KS.draws {X : Cx} {pins : List (Addr × Obj)} {σ : L2.St} {H : Hp} {s : Shared} (I : Inv X pins σ H s) (k : KS) (t : Tok) {vs : List V} (hk : k.at X.K H vs) :
    ∃ C : Heap → Prop, C s.heap ∧ Begins (k.u t) (k.o t) C ∧ (∀ b ∈ k.fp, b < s.heap.objs.size) ∧
      ∀ (A : Around) (it : Addr), A.handled = none → it ∉ k.fp → Draws X.prog X.w A it (it :: k.fp) vs.length (KS.P vs) (fun i h => k.stt t it i h ∧ C h) := by
  cases k with
  | lst a =>
    obtain ⟨its, rv, p, hz⟩ := I.list hk
    have hl := rv.length
    refine ⟨fun h => h.IsList a its.toArray, p.isList, begins_list a _, fun b hb => ?_, fun A it hh hne => ?_⟩
    · have e : b = a := by simpa [KS.fp] using hb
      subst e
      obtain ⟨o, e1, e2, _⟩ := p.isList
      exact Heap.lt_size e1
    · have D := Draws.list (prog := X.prog) (w := X.w) (A := A) hh it a (fun e => hne (by simp [KS.fp, e])) its.toArray
      have hs : its.toArray.size = vs.length := by simp [hl]
      rw [hs] at D
      exact Draws.imp D fun i x hx => by
        have hx : its[i]? = some x := by simpa using hx
        obtain ⟨v, h1, h2⟩ : ∃ v, vs[i]? = some v ∧ RelV v x := by
          have hlt : i < vs.length := by rw [hl]; exact (List.getElem?_eq_some_iff.mp hx).1
          obtain ⟨u, hu, ru⟩ := rv.get (List.getElem?_eq_getElem hlt)
          rw [hx] at hu
          cases hu
          exact ⟨_, List.getElem?_eq_getElem hlt, ru⟩
        exact ⟨v, h1, h2⟩
  | tup a =>
    obtain ⟨its, rv, p, hz⟩ := I.tuple hk
    have p' : s.heap.IsTuple a its.toArray := p
    have hl := rv.length
    refine ⟨fun h => h.IsTuple a its.toArray, p', begins_tuple a _, fun b hb => ?_, fun A it hh hne => ?_⟩
    · have e : b = a := by simpa [KS.fp] using hb
      subst e
      obtain ⟨o, e1, e2, _⟩ := p'
      exact Heap.lt_size e1
    · have D := Draws.tuple (prog := X.prog) (w := X.w) (A := A) hh it a (fun e => hne (by simp [KS.fp, e])) its.toArray
      have hs : its.toArray.size = vs.length := by simp [hl]
      rw [hs] at D
      exact Draws.imp D fun i x hx => by
        have hx : its[i]? = some x := by simpa using hx
        have hlt : i < vs.length := by rw [hl]; exact (List.getElem?_eq_some_iff.mp hx).1
        obtain ⟨u, hu, ru⟩ := rv.get (List.getElem?_eq_getElem hlt)
        rw [hx] at hu
        cases hu
        exact ⟨_, List.getElem?_eq_getElem hlt, ru⟩
  | txt x =>
    have hk : vs = chars x := hk
    subst hk
    refine ⟨fun _ => True, trivial, begins_text x t, fun b hb => absurd (show b ∈ ([] : List Addr) from hb) (by simp), fun A it hh hne => ?_⟩
    have D := Draws.text (prog := X.prog) (w := X.w) (A := A) hh it x t
    have hs : x.cps.size = (chars x).length := by simp [chars]
    rw [hs] at D
    have D2 := Draws.imp (P' := KS.P (chars x)) D fun i v ⟨c, u, hc, hv⟩ => by
      subst hv
      refine ⟨.str ⟨#[c]⟩, ?_, ⟨u, rfl⟩⟩
      unfold chars
      rw [List.getElem?_map]
      rw [show x.cps.toList[i]? = some c by simpa using hc]
      rfl
    exact ⟨fun i h st => D2.live i h st.1, fun i h h' st q => ⟨D2.frame i h h' st.1 q, trivial⟩, fun i s Q E hi st hQ => D2.item i s Q E hi st.1 fun v h' tk hP st' => hQ v h' tk hP ⟨st', trivial⟩, fun s Q E st hE => D2.done s Q E st.1 hE⟩
end Mp

set_option Elab.async false
set_option linter.all false
set_option maxRecDepth 100000
set_option maxHeartbeats 4000000
namespace Mp
open PySem PySem.Spec L2
open PyProof.Rows hiding St

/-! ### enumerate(v), zip(v, u), zip(v, u, t): new tuples -/
def Je (K : PySem.W.Frag) (k : KS) : It :=
  ⟨fun i H => ∃ vs, k.at K H vs ∧ i < vs.length, fun i H x H' => ∃ T y, x = .ref T ∧ H T = none ∧ H' = upd H T (.tup [.int (i : Nat), y]) ∧ ∀ vs, k.at K H vs → vs[i]? = some y, fun i H => ∃ vs, k.at K H vs ∧ i = vs.length⟩
def Jz (K : PySem.W.Frag) (k l : KS) : It :=
  ⟨fun i H => ∃ vs us, k.at K H vs ∧ l.at K H us ∧ i < vs.length ∧ i < us.length, fun i H x H' => ∃ T y z, x = .ref T ∧ H T = none ∧ H' = upd H T (.tup [y, z]) ∧ (∀ vs, k.at K H vs → vs[i]? = some y) ∧ ∀ us, l.at K H us → us[i]? = some z,
    fun i H => ∃ vs us, k.at K H vs ∧ l.at K H us ∧ i = min vs.length us.length⟩
def Jz3 (K : PySem.W.Frag) (k l m : KS) : It :=
  ⟨fun i H => ∃ vs us ts, k.at K H vs ∧ l.at K H us ∧ m.at K H ts ∧ i < vs.length ∧ i < us.length ∧ i < ts.length, fun i H x H' => ∃ T y z w, x = .ref T ∧ H T = none ∧ H' = upd H T (.tup [y, z, w]) ∧ (∀ vs, k.at K H vs → vs[i]? = some y) ∧ (∀ us, l.at K H us → us[i]? = some z) ∧ ∀ ts, m.at K H ts → ts[i]? = some w,
    fun i H => ∃ vs us ts, k.at K H vs ∧ l.at K H us ∧ m.at K H ts ∧ i = min (min vs.length us.length) ts.length⟩
theorem KS.inj {X : Cx} {pins : List (Addr × Obj)} {σ : L2.St} {H : Hp} {s : Shared} (I : Inv X pins σ H s) (k : KS) {vs us : List V} (h1 : k.at X.K H vs) (h2 : k.at X.K H us) : vs = us := by
  cases k with
  | lst a => exact I.list_inj h1 h2
  | tup a => exact I.tuple_inj h1 h2
  | txt x => exact (show vs = chars x from h1).trans (show us = chars x from h2).symm
/-- what a step hands out -/
theorem turn_put {X : Cx} {pins : List (Addr × Obj)} {σ : L2.St} {H : Hp} {s : Shared} {h' : Heap} {tk : Nat} {wr : List Addr} {T : Addr} {vs : List V} {its : List Value} (I : Inv X pins σ H s) (hf : ∀ b ∈ wr, FpOk X pins H b)
    (kp : ∀ b o, b ∉ wr → s.heap.get? b = some o → h'.get? b = some o) (hT : s.heap.objs.size ≤ T) (hv : Vals vs its) (hl : vs.length ≤ 100) (ht : h'.IsTuple T its.toArray) : Inv X pins σ (upd H T (.tup vs)) { s with heap := h', toks := tk } :=
  I.turnedNew kp hf hT ⟨Nat.le_trans hl (by decide), its, hv, ht⟩
theorem off_T {X : Cx} {pins : List (Addr × Obj)} {H : Hp} {s : Shared} {fp : List Addr} {T : Addr} {o : HO} (hf : ∀ b ∈ fp, FpOk X pins H b) (live : ∀ b ∈ fp, b < s.heap.objs.size) (hT : s.heap.objs.size ≤ T) : ∀ b ∈ fp, upd H T o b = none := fun b hb => by
  have := live b hb
  rw [upd_ne (Nat.ne_of_lt (Nat.lt_of_lt_of_le this hT))]
  exact (hf b hb).1
theorem turn_e {P : Program} {w : World} {K : PySem.W.Frag} {elts : List Expr} {kk : Nat} {tpos : Pos} (k : KS) (t : Tok) {e it : Addr} (hne : e ≠ it) (h1 : e ∉ k.fp) (h2 : it ∉ k.fp) :
    Turn P w K (.Tuple elts kk tpos) (Je K k) [e, it] e (fun i h => (∃ old, IsEnum h e it ((0 : Int) + (i : Nat)) old) ∧ k.stt t it i h) where
  mem := by simp
  obj := fun i h st b hb => by
    obtain ⟨⟨old, he⟩, hs⟩ := st
    rcases (by simpa using hb : b = e ∨ b = it) with z | z
    · rw [z]; exact ⟨_, he, fun v q => nomatch q⟩
    · rw [z]; exact k.live t hs
  keep := fun i h h' st kp => by
    obtain ⟨⟨old, he⟩, hs⟩ := st
    exact ⟨⟨old, kp e (by simp) _ he⟩, k.keep t hs fun o q => kp it (by simp) o q⟩
  item := by
    intro X hP hw hK hc i pins s σ H E I hf st hg
    subst hP hw hK
    obtain ⟨⟨old, he⟩, hs⟩ := st
    obtain ⟨vs, hk, hlt⟩ := hg
    obtain ⟨C, hC, _, _, D⟩ := k.draws I t hk
    have G := GoesN.enumFrom (elts := elts) (x1 := kk) (pos := tpos) 0 (D X.A.in1 it (I.ok.hd hc) h2) e hne (by simp [hne, h1]) (by simp)
    refine wpAny_mono (G.goes i s (fun v s2 => ∃ x H', Inv X pins σ H' s2 ∧ RelV x v ∧ (Je X.K k).yld i H x H' ∧ ((∃ old, IsEnum s2.heap e it ((0 : Int) + ((i + 1 : Nat) : Nat)) old) ∧ k.stt t it (i + 1) s2.heap) ∧ ∀ b ∈ [e, it], H' b = none) E hlt ⟨⟨old, he⟩, hs, hC⟩ fun v h' tk hY st' kp _ => ?_) (fun r s1 h => h) (fun _ _ h => h)
    obtain ⟨T, t', x, rfl, hT, ⟨y, hy, ry⟩, htup⟩ := hY
    have e0 : (0 : Int) + (i : Int) = (i : Int) := by omega
    rw [e0] at htup
    have hlive : ∀ b ∈ [e, it], b < s.heap.objs.size := fun b hb => by
      rcases (by simpa using hb : b = e ∨ b = it) with z | z
      · rw [z]; exact Heap.lt_size he
      · obtain ⟨o, q, _⟩ := k.live t hs
        rw [z]; exact Heap.lt_size q
    exact ⟨.ref T, upd H T (.tup [.int (i : Nat), y]), turn_put I (wr := [e, it]) hf kp hT (its := [.int i t', x]) (.cons ⟨t', rfl⟩ (.cons ry .nil)) (by simp) htup, rfl, ⟨T, y, rfl, I.hok.fresh hT, rfl, fun us hu => by rw [k.inj I hu hk]; exact hy⟩, ⟨st'.1, st'.2.1⟩, off_T hf hlive hT⟩
  done := by
    intro X hP hw hK hc i pins s σ H E I hf st hg
    subst hP hw hK
    obtain ⟨⟨old, he⟩, hs⟩ := st
    obtain ⟨vs, hk, rfl⟩ := hg
    obtain ⟨C, hC, _, _, D⟩ := k.draws I t hk
    have G := GoesN.enumFrom (elts := elts) (x1 := kk) (pos := tpos) 0 (D X.A.in1 it (I.ok.hd hc) h2) e hne (by simp [hne, h1]) (by simp)
    exact G.stops s (fun s2 => Inv X pins σ H s2) E ⟨⟨old, he⟩, hs, hC⟩ fun h' tk kp _ => I.turnedL (t' := tk) (ch := [e, it]) kp hf
  self := fun A i s Q E st h => let ⟨⟨_, he⟩, _⟩ := st; wpAny_pyIter_enum he h
/-- enumerate(v), by how v's iterator begins -/
theorem meets_enum1 {v : Value} {o : Obj} {H : Heap → Prop} (B : Begins v o H) :
    Meets (Builtin.«enumerate.__new__» ⟨[.type "enumerate", v], []⟩) (fun _ R s => H s.heap ∧
      R (.ok (.ret (.ref (s.heap.push o).objs.size))) { s with heap := (s.heap.push o).push { cls := .type "enumerate", data := .fields #[.none, .bool false, .ref s.heap.objs.size, rawInt 0, .none, .none] } }) :=
  .of_wp fun prog w A R s h => by
    obtain ⟨hp, g, d, tk, os⟩ := s; obtain ⟨h1, h⟩ := h
    have hsub := sub_enumerate
    have q1 : ∀ {A' : Around} {E : Value → Shared → Prop} {Q : Value → Shared → Prop}, Q (.ref hp.objs.size) ⟨hp.push o, g, d, tk, os⟩ → wpAny (model prog w) A' (pyIter v) Q E ⟨hp, g, d, tk, os⟩ :=
      fun q => B.iter prog w _ _ ⟨hp, g, d, tk, os⟩ _ h1 q
    wp_walk using q1
    refine wpAny_stack_any fun st => wpAny_pure ?_
    split
    · rename_i c _ _ _ _ _
      cases (c == Value.type "enumerate")
      · wp_walk using q1
        exact ⟨_, rfl, h⟩
      · wp_walk using q1
        exact ⟨_, rfl, h⟩
    · wp_walk using q1
      exact ⟨_, rfl, h⟩
theorem call_enum1 {prog : Program} {w : World} {A : Around} {E : Value → Shared → Prop} {s : Shared} {v : Value} {o : Obj} {C : Heap → Prop} {Q : Value → Shared → Prop} (B : Begins v o C) (h1 : C s.heap)
    (h : ∀ h', IsEnum h' (s.heap.objs.size + 1) s.heap.objs.size 0 .none → h'.get? s.heap.objs.size = some o → (∀ b o, s.heap.get? b = some o → h'.get? b = some o) → Q (.ref (s.heap.objs.size + 1)) { s with heap := h' }) :
    wpAny (model prog w) A (call (.type "enumerate") [v]) Q E s := by
  refine callType_new F.called_enumerate (by decide) (F.typeCall_enumerate_1 _) (F.newCall_enumerate_1 _) (fun obj => F.args_object_init_2 obj _) F.entry_enumerate_new
    (meets_enum1 B) ⟨h1, ?_⟩
  have hz : (s.heap.push o).objs.size = s.heap.objs.size + 1 := Heap.size_push ..
  show _ ∧ _
  rw [hz]
  have he : IsEnum ((s.heap.push o).push { cls := .type "enumerate", data := .fields #[.none, .bool false, .ref s.heap.objs.size, rawInt 0, .none, .none] }) (s.heap.objs.size + 1) s.heap.objs.size 0 .none := by
    have := Heap.get?_push_size (s.heap.push o) (o := { cls := .type "enumerate", data := .fields #[.none, .bool false, .ref s.heap.objs.size, rawInt 0, .none, .none] }) rfl
    rw [hz] at this; exact this
  exact ⟨⟨_, he, rfl⟩, h _ he (Heap.get?_push_of_some _ (Heap.get?_push_size _ B.free)) fun b o x => Heap.get?_push_of_some _ (Heap.get?_push_of_some _ x)⟩
/-! ### zip -/
theorem turn_z {P : Program} {w : World} {K : PySem.W.Frag} {elts : List Expr} {kk : Nat} {tpos : Pos} (k l : KS) (t u : Tok) {z TI TO i1 i2 : Addr} (S : ZipSep2 z TI TO i1 i2 (i1 :: k.fp) (i2 :: l.fp)) (n1 : i1 ∉ k.fp) (n2 : i2 ∉ l.fp) :
    Turn P w K (.Tuple elts kk tpos) (Jz K k l) [z, TI, TO, i1, i2] z (fun i h => IsZip h z TI TO .none ∧ IsTupOf2 h TI (.ref i1) (.ref i2) ∧ (∃ a1 a2, IsTupOf2 h TO a1 a2) ∧ k.stt t i1 i h ∧ l.stt u i2 i h) where
  mem := by simp
  obj := fun i h st c hc => by
    obtain ⟨hz, hTI, ⟨x, y, hTO⟩, h1, h2⟩ := st
    have e' : c = z ∨ c = TI ∨ c = TO ∨ c = i1 ∨ c = i2 := by simpa using hc
    rcases e' with q | q | q | q | q
    · rw [q]; exact ⟨_, hz, fun v q => nomatch q⟩
    · rw [q]; exact ⟨_, hTI, fun v q => nomatch q⟩
    · rw [q]; exact ⟨_, hTO, fun v q => nomatch q⟩
    · rw [q]; exact k.live t h1
    · rw [q]; exact l.live u h2
  keep := fun i h h' st kp => by
    obtain ⟨hz, hTI, ⟨x, y, hTO⟩, h1, h2⟩ := st
    exact ⟨kp z (by simp) _ hz, kp TI (by simp) _ hTI, ⟨x, y, kp TO (by simp) _ hTO⟩, k.keep t h1 fun o q => kp i1 (by simp) o q, l.keep u h2 fun o q => kp i2 (by simp) o q⟩
  item := by
    intro X hP hw hK hc i pins s σ H E I hf st hg
    subst hP hw hK
    obtain ⟨hz, hTI, hTO, hs1, hs2⟩ := id st
    obtain ⟨vs, us, hk, hl, hlt1, hlt2⟩ := hg
    obtain ⟨C1, hC1, _, _, D1⟩ := k.draws I t hk
    obtain ⟨C2, hC2, _, _, D2⟩ := l.draws I u hl
    have G := GoesN.zip2 (elts := elts) (x1 := kk) (pos := tpos) S (D1 X.A.in1 i1 (I.ok.hd hc) n1) (D2 X.A.in1 i2 (I.ok.hd hc) n2)
    refine G.goes i s (fun v s2 => ∃ x H', Inv X pins σ H' s2 ∧ RelV x v ∧ (Jz X.K k l).yld i H x H' ∧ (IsZip s2.heap z TI TO .none ∧ IsTupOf2 s2.heap TI (.ref i1) (.ref i2) ∧ (∃ a1 a2, IsTupOf2 s2.heap TO a1 a2) ∧ k.stt t i1 (i + 1) s2.heap ∧ l.stt u i2 (i + 1) s2.heap) ∧ ∀ b ∈ [z, TI, TO, i1, i2], H' b = none) E (by omega) ⟨hz, hTI, hTO, ⟨hs1, hC1⟩, hs2, hC2⟩ fun v h' tk hY st' kp _ => ?_
    obtain ⟨T, x, y, rfl, hT, ⟨v1, hv1, r1⟩, ⟨v2, hv2, r2⟩, htup⟩ := hY
    have hlive : ∀ b ∈ [z, TI, TO, i1, i2], b < s.heap.objs.size := fun b hb => by
      obtain ⟨x, y, hTO⟩ := hTO
      have e' : b = z ∨ b = TI ∨ b = TO ∨ b = i1 ∨ b = i2 := by simpa using hb
      rcases e' with q | q | q | q | q
      · rw [q]; exact Heap.lt_size hz
      · rw [q]; exact Heap.lt_size hTI
      · rw [q]; exact Heap.lt_size hTO
      · obtain ⟨o, e, _⟩ := k.live t hs1
        rw [q]; exact Heap.lt_size e
      · obtain ⟨o, e, _⟩ := l.live u hs2
        rw [q]; exact Heap.lt_size e
    exact ⟨.ref T, upd H T (.tup [v1, v2]), turn_put I (wr := [z, TO, i1, i2]) (fun b hb => hf b (by
      have e' : b = z ∨ b = TO ∨ b = i1 ∨ b = i2 := by simpa using hb
      rcases e' with q | q | q | q <;> simp [q])) kp hT (its := [x, y]) (.cons r1 (.cons r2 .nil)) (by simp) htup, rfl, ⟨T, v1, v2, rfl, I.hok.fresh hT, rfl, fun us hu => by rw [k.inj I hu hk]; exact hv1, fun us hu => by rw [l.inj I hu hl]; exact hv2⟩,
      ⟨st'.1, st'.2.1, st'.2.2.1, st'.2.2.2.1.1, st'.2.2.2.2.1⟩, off_T hf hlive hT⟩
  done := by
    intro X hP hw hK hc i pins s σ H E I hf st hg
    subst hP hw hK
    obtain ⟨hz, hTI, hTO, hs1, hs2⟩ := id st
    obtain ⟨vs, us, hk, hl, rfl⟩ := hg
    obtain ⟨C1, hC1, _, _, D1⟩ := k.draws I t hk
    obtain ⟨C2, hC2, _, _, D2⟩ := l.draws I u hl
    have G := GoesN.zip2 (elts := elts) (x1 := kk) (pos := tpos) S (D1 X.A.in1 i1 (I.ok.hd hc) n1) (D2 X.A.in1 i2 (I.ok.hd hc) n2)
    exact G.stops s (fun s2 => Inv X pins σ H s2) E ⟨hz, hTI, hTO, ⟨hs1, hC1⟩, hs2, hC2⟩ fun h' tk kp _ => I.turnedL (t' := tk) (ch := [z, TO, i1, i2]) kp (fun b hb => hf b (by
      have e' : b = z ∨ b = TO ∨ b = i1 ∨ b = i2 := by simpa using hb
      rcases e' with q | q | q | q <;> simp [q]))
  self := fun A i s Q E st h => wpAny_pyIter_zip st.1 h
theorem turn_z3 {P : Program} {w : World} {K : PySem.W.Frag} {elts : List Expr} {kk : Nat} {tpos : Pos} (k l m : KS) (t u v : Tok) {z TI TO i1 i2 i3 : Addr} (S : ZipSep3 z TI TO i1 i2 i3 (i1 :: k.fp) (i2 :: l.fp) (i3 :: m.fp)) (n1 : i1 ∉ k.fp) (n2 : i2 ∉ l.fp) (n3 : i3 ∉ m.fp) :
    Turn P w K (.Tuple elts kk tpos) (Jz3 K k l m) [z, TI, TO, i1, i2, i3] z (fun i h => IsZip h z TI TO .none ∧ IsTupOf3 h TI (.ref i1) (.ref i2) (.ref i3) ∧ (∃ a1 a2 a3, IsTupOf3 h TO a1 a2 a3) ∧ k.stt t i1 i h ∧ l.stt u i2 i h ∧ m.stt v i3 i h) where
  mem := by simp
  obj := fun i h st c hc => by
    obtain ⟨hz, hTI, ⟨x, y, w, hTO⟩, h1, h2, h3⟩ := st
    have e' : c = z ∨ c = TI ∨ c = TO ∨ c = i1 ∨ c = i2 ∨ c = i3 := by simpa using hc
    rcases e' with q | q | q | q | q | q
    · rw [q]; exact ⟨_, hz, fun v q => nomatch q⟩
    · rw [q]; exact ⟨_, hTI, fun v q => nomatch q⟩
    · rw [q]; exact ⟨_, hTO, fun v q => nomatch q⟩
    · rw [q]; exact k.live t h1
    · rw [q]; exact l.live u h2
    · rw [q]; exact m.live v h3
  keep := fun i h h' st kp => by
    obtain ⟨hz, hTI, ⟨x, y, w, hTO⟩, h1, h2, h3⟩ := st
    exact ⟨kp z (by simp) _ hz, kp TI (by simp) _ hTI, ⟨x, y, w, kp TO (by simp) _ hTO⟩, k.keep t h1 fun o q => kp i1 (by simp) o q, l.keep u h2 fun o q => kp i2 (by simp) o q, m.keep v h3 fun o q => kp i3 (by simp) o q⟩
  item := by
    intro X hP hw hK hc i pins s σ H E I hf st hg
    subst hP hw hK
    obtain ⟨hz, hTI, hTO, hs1, hs2, hs3⟩ := id st
    obtain ⟨vs, us, ts, hk, hl, hm, hlt1, hlt2, hlt3⟩ := hg
    obtain ⟨C1, hC1, _, _, D1⟩ := k.draws I t hk
    obtain ⟨C2, hC2, _, _, D2⟩ := l.draws I u hl
    obtain ⟨C3, hC3, _, _, D3⟩ := m.draws I v hm
    have G := GoesN.zip3 (elts := elts) (x1 := kk) (pos := tpos) S (D1 X.A.in1 i1 (I.ok.hd hc) n1) (D2 X.A.in1 i2 (I.ok.hd hc) n2) (D3 X.A.in1 i3 (I.ok.hd hc) n3)
    refine G.goes i s (fun q s2 => ∃ x H', Inv X pins σ H' s2 ∧ RelV x q ∧ (Jz3 X.K k l m).yld i H x H' ∧ (IsZip s2.heap z TI TO .none ∧ IsTupOf3 s2.heap TI (.ref i1) (.ref i2) (.ref i3) ∧ (∃ a1 a2 a3, IsTupOf3 s2.heap TO a1 a2 a3) ∧ k.stt t i1 (i + 1) s2.heap ∧ l.stt u i2 (i + 1) s2.heap ∧ m.stt v i3 (i + 1) s2.heap) ∧ ∀ b ∈ [z, TI, TO, i1, i2, i3], H' b = none) E (by omega) ⟨hz, hTI, hTO, ⟨hs1, hC1⟩, ⟨hs2, hC2⟩, hs3, hC3⟩ fun q h' tk hY st' kp _ => ?_
    obtain ⟨T, x, y, w, rfl, hT, ⟨v1, hv1, r1⟩, ⟨v2, hv2, r2⟩, ⟨v3, hv3, r3⟩, htup⟩ := hY
    have hlive : ∀ b ∈ [z, TI, TO, i1, i2, i3], b < s.heap.objs.size := fun b hb => by
      obtain ⟨x, y, w, hTO⟩ := hTO
      have e' : b = z ∨ b = TI ∨ b = TO ∨ b = i1 ∨ b = i2 ∨ b = i3 := by simpa using hb
      rcases e' with q | q | q | q | q | q
      · rw [q]; exact Heap.lt_size hz
      · rw [q]; exact Heap.lt_size hTI
      · rw [q]; exact Heap.lt_size hTO
      · obtain ⟨o, e, _⟩ := k.live t hs1
        rw [q]; exact Heap.lt_size e
      · obtain ⟨o, e, _⟩ := l.live u hs2
        rw [q]; exact Heap.lt_size e
      · obtain ⟨o, e, _⟩ := m.live v hs3
        rw [q]; exact Heap.lt_size e
    exact ⟨.ref T, upd H T (.tup [v1, v2, v3]), turn_put I (wr := [z, TO, i1, i2, i3]) (fun b hb => hf b (by
      have e' : b = z ∨ b = TO ∨ b = i1 ∨ b = i2 ∨ b = i3 := by simpa using hb
      rcases e' with q | q | q | q | q <;> simp [q])) kp hT (its := [x, y, w]) (.cons r1 (.cons r2 (.cons r3 .nil))) (by simp) htup, rfl, ⟨T, v1, v2, v3, rfl, I.hok.fresh hT, rfl, fun us hu => by rw [k.inj I hu hk]; exact hv1, fun us hu => by rw [l.inj I hu hl]; exact hv2, fun us hu => by rw [m.inj I hu hm]; exact hv3⟩,
      ⟨st'.1, st'.2.1, st'.2.2.1, st'.2.2.2.1.1, st'.2.2.2.2.1.1, st'.2.2.2.2.2.1⟩, off_T hf hlive hT⟩
  done := by
    intro X hP hw hK hc i pins s σ H E I hf st hg
    subst hP hw hK
    obtain ⟨hz, hTI, hTO, hs1, hs2, hs3⟩ := id st
    obtain ⟨vs, us, ts, hk, hl, hm, rfl⟩ := hg
    obtain ⟨C1, hC1, _, _, D1⟩ := k.draws I t hk
    obtain ⟨C2, hC2, _, _, D2⟩ := l.draws I u hl
    obtain ⟨C3, hC3, _, _, D3⟩ := m.draws I v hm
    have G := GoesN.zip3 (elts := elts) (x1 := kk) (pos := tpos) S (D1 X.A.in1 i1 (I.ok.hd hc) n1) (D2 X.A.in1 i2 (I.ok.hd hc) n2) (D3 X.A.in1 i3 (I.ok.hd hc) n3)
    exact G.stops s (fun s2 => Inv X pins σ H s2) E ⟨hz, hTI, hTO, ⟨hs1, hC1⟩, ⟨hs2, hC2⟩, hs3, hC3⟩ fun h' tk kp _ => I.turnedL (t' := tk) (ch := [z, TO, i1, i2, i3]) kp (fun b hb => hf b (by
      have e' : b = z ∨ b = TO ∨ b = i1 ∨ b = i2 ∨ b = i3 := by simpa using hb
      rcases e' with q | q | q | q | q <;> simp [q]))
  self := fun A i s Q E st h => wpAny_pyIter_zip st.1 h
end Mp

set_option Elab.async false
set_option linter.all false
set_option maxRecDepth 100000
set_option maxHeartbeats 4000000
namespace Mp
open PySem PySem.Spec L2
open PyProof.Rows hiding St

/-- what a loop walks tells xs -/
structure ItD (K : Kx) (J : It) (g : G) (H : Hp) (xs : List D) : Prop where
  go : ∀ g' H' (i : Nat), ExtS g H g' H' → (∀ a o, g'.F a = some o → H' a = some o) → i < xs.length → J.go i H'
  stop : ∀ g' H', ExtS g H g' H' → (∀ a o, g'.F a = some o → H' a = some o) → J.stop xs.length H'
  yld : ∀ g' H' (i : Nat) x H'', ExtS g H g' H' → (∀ a o, g'.F a = some o → H' a = some o) → i < xs.length → J.yld i H' x H'' → ∃ d, xs[i]? = some d ∧
    ((H'' = H' ∧ RV K g'.F g'.φ d x) ∨ ∃ T vs ds, d = .tup ds ∧ x = .ref T ∧ H' T = none ∧ H'' = upd H' T (.tup vs) ∧ RVs K g'.F g'.φ ds vs)
abbrev AI (K : Kx) : List D → It → G → Hp → G → Hp → Prop := fun xs J _ _ g' H' => ItD K J g' H' xs
abbrev tI {K : Kx} (p : Pm K) (f : M (List D)) : TI := tG p (AI K) f
theorem preI {K : Kx} : Pre (AI K) := fun _ _ _ _ _ _ _ _ _ a => a
def charD (x : Str) : List D := x.cps.toList.map fun c => D.str ⟨#[c]⟩
def srcD : D → Option (List D)
  | .lst xs => some xs
  | .tup xs => some xs
  | .scr xs => some xs
  | .str x => some (charD x)
  | _ => none
theorem KS.up {K : PySem.W.Frag} {F F' : Hp} (k : KS) {xs : List V} (h : ∀ a o, F a = some o → F' a = some o) (q : k.at K F xs) : k.at K F' xs := by
  cases k with
  | lst a => exact SqL.up h q
  | tup a => exact SqT.up h q
  | txt x => exact q
theorem RVs.chars {K : Kx} {F : Hp} {φ : List Addr} (l : List Nat) : RVs K F φ (l.map fun c => D.str ⟨#[c]⟩) (l.map fun c => V.str ⟨#[c]⟩) := by
  induction l with
  | nil => exact .nil
  | cons c l ih => exact .cons (.str _) ih
theorem src_of {K : Kx} {F : Hp} {φ : List Addr} {d : D} {v : V} {ds : List D} (r : RV K F φ d v) (h : srcD d = some ds) : ∃ (k : KS) (vs : List V), k.v = v ∧ k.at K.K F vs ∧ RVs K F φ ds vs := by
  cases r with
  | @tup a vs _ s q => cases h; exact ⟨.tup a, vs, rfl, s, q⟩
  | @lst a vs _ s q => cases h; exact ⟨.lst a, vs, rfl, SqL.of s, q⟩
  | @scr a vs _ s q => cases h; exact ⟨.lst a, vs, rfl, s, q⟩
  | str x => cases h; exact ⟨.txt x, chars x, rfl, rfl, RVs.chars x.cps.toList⟩
  | _ => cases h
/-- the plain walk of a source -/
def KS.it (K : PySem.W.Frag) : KS → It
  | .lst a => Itl K a | .tup a => Itt K a | .txt x => Its x
theorem KS.itD {K : Kx} {g : G} {H : Hp} {ds : List D} {vs : List V} (k : KS) (h : k.at K.K g.F vs) (r : RVs K g.F g.φ ds vs) : ItD K (k.it K.K) g H ds := by
  have hl := r.length
  refine ⟨fun g' H' i e sub hi => ?_, fun g' H' e sub => ?_, fun g' H' i x H'' e sub hi y => ?_⟩
  · have h' : k.at K.K H' vs := k.up (fun a o z => sub a o (e.fr a o z)) h
    cases k with
    | lst a => exact ⟨vs, vs[i]'(by omega), h', by simp [show i < vs.length by omega]⟩
    | tup a => exact ⟨vs, vs[i]'(by omega), h', by simp [show i < vs.length by omega]⟩
    | txt x =>
      have h2 : vs = chars x := h
      show i < x.cps.size
      rw [h2] at hl
      simp [chars] at hl
      omega
  · have h' : k.at K.K H' vs := k.up (fun a o z => sub a o (e.fr a o z)) h
    cases k with
    | lst a => exact ⟨vs, h', by omega⟩
    | tup a => exact ⟨vs, h', by omega⟩
    | txt x =>
      have h2 : vs = chars x := h
      show x.cps.size ≤ ds.length
      rw [h2] at hl
      simp [chars] at hl
      omega
  · have h' : k.at K.K H' vs := k.up (fun a o z => sub a o (e.fr a o z)) h
    obtain ⟨v, hv, rv⟩ := r.getD (List.getElem?_eq_getElem hi)
    refine ⟨ds[i], List.getElem?_eq_getElem hi, .inl ?_⟩
    cases k with
    | lst a =>
      obtain ⟨e1, e2⟩ := y
      have := e2 vs h'
      rw [hv] at this
      cases this
      exact ⟨e1, e.rv rv⟩
    | tup a =>
      obtain ⟨e1, e2⟩ := y
      have := e2 vs h'
      rw [hv] at this
      cases this
      exact ⟨e1, e.rv rv⟩
    | txt x =>
      obtain ⟨e1, c, e2, e3⟩ := y
      have h2 : vs = chars x := h
      rw [h2] at hv
      unfold chars at hv
      rw [List.getElem?_map, show x.cps.toList[i]? = some c by simpa using e2] at hv
      have e4 : V.str ⟨#[c]⟩ = v := Option.some.inj hv
      rw [e3, e4]
      exact ⟨e1, e.rv rv⟩
/-- new pairs -/
def enumL (ds : List D) : List D := (List.range ds.length).map fun i => .tup [.int (i : Nat), ds.getD i .non]
def zipL (ds es : List D) : List D := (List.range (min ds.length es.length)).map fun i => .tup [ds.getD i .non, es.getD i .non]
def zip3L (ds es fs : List D) : List D := (List.range (min (min ds.length es.length) fs.length)).map fun i => .tup [ds.getD i .non, es.getD i .non, fs.getD i .non]
theorem getD_of {ds : List D} {i : Nat} {d : D} (h : ds[i]? = some d) : ds.getD i .non = d := by
  rw [List.getD_eq_getElem?_getD, h]; rfl
theorem KS.enD {K : Kx} {g : G} {H : Hp} {ds : List D} {vs : List V} (k : KS) (h : k.at K.K g.F vs) (r : RVs K g.F g.φ ds vs) : ItD K (Je K.K k) g H (enumL ds) := by
  have hl := r.length
  have hn : (enumL ds).length = ds.length := by simp [enumL]
  refine ⟨fun g' H' i e sub hi => ⟨vs, k.up (fun a o z => sub a o (e.fr a o z)) h, by omega⟩, fun g' H' e sub => ⟨vs, k.up (fun a o z => sub a o (e.fr a o z)) h, by omega⟩, fun g' H' i x H'' e sub hi y => ?_⟩
  obtain ⟨T, y, rfl, hT, rfl, hy⟩ := y
  have hi' : i < ds.length := by omega
  obtain ⟨v, hv, rv⟩ := r.getD (List.getElem?_eq_getElem hi')
  have := hy vs (k.up (fun a o z => sub a o (e.fr a o z)) h)
  rw [hv] at this
  cases this
  refine ⟨.tup [.int (i : Nat), ds[i]], ?_, .inr ⟨T, _, _, rfl, rfl, hT, rfl, .cons (.int _) (.cons (e.rv rv) .nil)⟩⟩
  unfold enumL
  rw [List.getElem?_map, List.getElem?_range hi']
  simp [List.getElem?_eq_getElem hi']
theorem KS.zipD {K : Kx} {g : G} {H : Hp} {ds es : List D} {vs us : List V} (k l : KS) (h : k.at K.K g.F vs) (r : RVs K g.F g.φ ds vs) (h2 : l.at K.K g.F us) (r2 : RVs K g.F g.φ es us) : ItD K (Jz K.K k l) g H (zipL ds es) := by
  have hl := r.length
  have hl2 := r2.length
  have hn : (zipL ds es).length = min ds.length es.length := by simp [zipL]
  refine ⟨fun g' H' i e sub hi => ⟨vs, us, k.up (fun a o z => sub a o (e.fr a o z)) h, l.up (fun a o z => sub a o (e.fr a o z)) h2, by omega, by omega⟩, fun g' H' e sub => ⟨vs, us, k.up (fun a o z => sub a o (e.fr a o z)) h, l.up (fun a o z => sub a o (e.fr a o z)) h2, by omega⟩, fun g' H' i x H'' e sub hi y => ?_⟩
  obtain ⟨T, y, z, rfl, hT, rfl, hy, hz⟩ := y
  have hi1 : i < ds.length := by omega
  have hi2 : i < es.length := by omega
  obtain ⟨v, hv, rv⟩ := r.getD (List.getElem?_eq_getElem hi1)
  obtain ⟨u, hu, ru⟩ := r2.getD (List.getElem?_eq_getElem hi2)
  have z1 := hy vs (k.up (fun a o z => sub a o (e.fr a o z)) h)
  have z2 := hz us (l.up (fun a o z => sub a o (e.fr a o z)) h2)
  rw [hv] at z1
  rw [hu] at z2
  cases z1
  cases z2
  refine ⟨.tup [ds[i], es[i]], ?_, .inr ⟨T, _, _, rfl, rfl, hT, rfl, .cons (e.rv rv) (.cons (e.rv ru) .nil)⟩⟩
  unfold zipL
  rw [List.getElem?_map, List.getElem?_range (by omega)]
  simp [List.getElem?_eq_getElem hi1, List.getElem?_eq_getElem hi2]
theorem KS.zip3D {K : Kx} {g : G} {H : Hp} {ds es fs : List D} {vs us ts : List V} (k l m : KS) (h : k.at K.K g.F vs) (r : RVs K g.F g.φ ds vs) (h2 : l.at K.K g.F us) (r2 : RVs K g.F g.φ es us) (h3 : m.at K.K g.F ts) (r3 : RVs K g.F g.φ fs ts) : ItD K (Jz3 K.K k l m) g H (zip3L ds es fs) := by
  have hl := r.length
  have hl2 := r2.length
  have hl3 := r3.length
  have hn : (zip3L ds es fs).length = min (min ds.length es.length) fs.length := by simp [zip3L]
  refine ⟨fun g' H' i e sub hi => ⟨vs, us, ts, k.up (fun a o z => sub a o (e.fr a o z)) h, l.up (fun a o z => sub a o (e.fr a o z)) h2, m.up (fun a o z => sub a o (e.fr a o z)) h3, by omega, by omega, by omega⟩, fun g' H' e sub => ⟨vs, us, ts, k.up (fun a o z => sub a o (e.fr a o z)) h, l.up (fun a o z => sub a o (e.fr a o z)) h2, m.up (fun a o z => sub a o (e.fr a o z)) h3, by omega⟩, fun g' H' i x H'' e sub hi y => ?_⟩
  obtain ⟨T, y, z, w, rfl, hT, rfl, hy, hz, hw⟩ := y
  have hi1 : i < ds.length := by omega
  have hi2 : i < es.length := by omega
  have hi3 : i < fs.length := by omega
  obtain ⟨v, hv, rv⟩ := r.getD (List.getElem?_eq_getElem hi1)
  obtain ⟨u, hu, ru⟩ := r2.getD (List.getElem?_eq_getElem hi2)
  obtain ⟨t, ht, rt⟩ := r3.getD (List.getElem?_eq_getElem hi3)
  have z1 := hy vs (k.up (fun a o z => sub a o (e.fr a o z)) h)
  have z2 := hz us (l.up (fun a o z => sub a o (e.fr a o z)) h2)
  have z3 := hw ts (m.up (fun a o z => sub a o (e.fr a o z)) h3)
  rw [hv] at z1
  rw [hu] at z2
  rw [ht] at z3
  cases z1
  cases z2
  cases z3
  refine ⟨.tup [ds[i], es[i], fs[i]], ?_, .inr ⟨T, _, _, rfl, rfl, hT, rfl, .cons (e.rv rv) (.cons (e.rv ru) (.cons (e.rv rt) .nil))⟩⟩
  unfold zip3L
  rw [List.getElem?_map, List.getElem?_range (by omega)]
  simp [List.getElem?_eq_getElem hi1, List.getElem?_eq_getElem hi2, List.getElem?_eq_getElem hi3]
/-- lo, lo + 1, .. -/
def rangeD (lo hi : Int) : List D := (List.range (hi - lo).toNat).map fun i => .int (lo + (i : Nat))
theorem rangeItD {K : Kx} {g : G} {H : Hp} (lo hi : Int) : ItD K (Itr lo (hi - lo).toNat) g H (rangeD lo hi) := by
  have hn : (rangeD lo hi).length = (hi - lo).toNat := by simp [rangeD]
  refine ⟨fun g' H' i e sub hi' => ?_, fun g' H' e sub => ?_, fun g' H' i x H'' e sub hi' y => ?_⟩
  · show i < (hi - lo).toNat
    omega
  · show (hi - lo).toNat ≤ (rangeD lo hi).length
    omega
  · obtain ⟨e1, e2⟩ := y
    refine ⟨.int (lo + (i : Nat)), ?_, .inl ⟨e1, by rw [e2]; exact .int _⟩⟩
    unfold rangeD
    rw [List.getElem?_map, List.getElem?_range (by omega)]
    rfl
section
variable {X : Cx} {lt : Nat → LamI} {p : Pm ⟨X.K, lt⟩} {e a b c tg : Expr} {es : List Expr} {pos pf : Pos} {fa fb fc : M D} {fl : M (List D)}
def seqI (f : M D) : M (List D) := bnd f fun d => lift (srcD d)
theorem liftP {K : Kx} {p : Pm K} {σ : L2.St} {g : G} {H : Hp} {s : S} {α β : Type} {A : α → β → G → Hp → G → Hp → Prop} {o : Option α} {Q : β → Hp → Prop} (h : Post p σ A (lift o s) g H Q) : ∃ x, o = some x ∧ ∀ v H' g', RS p g' σ H' s → Ext g H g' H' → A x v g H g' H' → Q v H' := by
  unfold lift at h
  cases o with
  | none => exact h.elim
  | some x => exact ⟨x, rfl, h⟩
theorem i_seq (he : PE X e (tD p fa)) : PI X tg e (tI p (seqI fa)) := by
  refine ⟨fun pins s σ H R I h => ?_⟩
  obtain ⟨g, s', r, q⟩ := seqV (K := ⟨X.K, lt⟩) preI h
  refine thn (he.run pins s σ H _ I ⟨g, s', r, q⟩) fun v s1 ⟨x, H1, I1, r1, g1, s1', d, rs1, rv, q1⟩ => ?_
  obtain ⟨ds, hd, q2⟩ := liftP q1
  obtain ⟨k, vs, rfl, hk, rr⟩ := src_of rv hd
  have q3 := q2 _ H1 g1 rs1 (.refl _ _) (k.itD hk rr)
  have hk' := k.up rs1.m.sub hk
  cases k with
  | lst a =>
    cases r1
    obtain ⟨its, rw', pl, hz⟩ := I1.list hk'
    exact wpAny_pyIter_list pl.isList (pi_one (tk := s1.toks) I1 _ (turn_list a _) ⟨_, Heap.get?_push_size _ rfl, rfl, rfl⟩ q3)
  | tup a =>
    cases r1
    obtain ⟨its, rw', pl, hz⟩ := I1.tuple hk'
    exact wpAny_pyIter_tuple (show s1.heap.IsTuple a its.toArray from pl) (pi_one (tk := s1.toks) I1 _ (turn_tuple a _) ⟨_, Heap.get?_push_size _ rfl, rfl, rfl⟩ q3)
  | txt y =>
    obtain ⟨t, rfl⟩ := r1
    cases ha : y.cps.all (· < 128)
    · exact wpAny_pyIter_wide ha (pi_one (tk := s1.toks) I1 _ (turn_str _ y t "str_iterator" (.inr rfl)) ⟨_, Heap.get?_push_size _ rfl, rfl, rfl⟩ q3)
    · exact wpAny_pyIter_ascii ha (pi_one (tk := s1.toks) I1 _ (turn_str _ y t "str_ascii_iterator" (.inl rfl)) ⟨_, Heap.get?_push_size _ rfl, rfl, rfl⟩ q3)
def rng1O (ds : List D) : Option (List D) := match ds with
  | [.int j] => if -(2 ^ 62) ≤ j ∧ j < 2 ^ 62 then some (rangeD 0 j) else none
  | _ => none
def rng2O (ds : List D) : Option (List D) := match ds with
  | [.int i, .int j] => if (-(2 ^ 62) ≤ i ∧ i < 2 ^ 62) ∧ -(2 ^ 62) ≤ j ∧ j < 2 ^ 62 then some (rangeD i j) else none
  | _ => none
def overA (o : List D → Option (List D)) (f : M (List D)) : M (List D) := bnd f fun ds => lift (o ds)
theorem i_range1 (hg : Gl X "range") (hm : X.mg "range" = none) (ha : PA X [a] (tL p fl)) (hs : starEach [a] X.env = [(false, eval a X.env)] := by rfl) : PI X tg (.Call (.Name "range" pf) [a] [] pos) (tI p (overA rng1O fl)) := by
  refine ⟨fun pins s σ H R I h => (pi_range1 hg hm ha hs).run pins s σ H R I ?_⟩
  obtain ⟨g, s', r, q⟩ := seqL (K := ⟨X.K, lt⟩) preI h
  refine ⟨g, s', r, Post.mono q fun vs H1 ⟨g1, s1', ds, rs1, rv, q1⟩ => ?_⟩
  obtain ⟨es, hd, q2⟩ := liftP q1
  unfold rng1O at hd
  split at hd
  · split at hd
    · rename_i j hc
      cases hd
      cases rv with
      | cons r1 rr =>
        cases rr
        cases r1
        refine ⟨j, rfl, hc.1, hc.2, ?_⟩
        have e0 : j.toNat = (j - 0).toNat := by rw [Int.sub_zero]
        rw [e0]
        exact q2 _ H1 g1 rs1 (.refl _ _) (rangeItD 0 j)
    · cases hd
  · cases hd
theorem i_range2 (hg : Gl X "range") (hm : X.mg "range" = none) (ha : PA X [a, b] (tL p fl)) (hs : starEach [a, b] X.env = [(false, eval a X.env), (false, eval b X.env)] := by rfl) (hs2 : starEach [b] X.env = [(false, eval b X.env)] := by rfl) : PI X tg (.Call (.Name "range" pf) [a, b] [] pos) (tI p (overA rng2O fl)) := by
  refine ⟨fun pins s σ H R I h => (pi_range2 hg hm ha hs hs2).run pins s σ H R I ?_⟩
  obtain ⟨g, s', r, q⟩ := seqL (K := ⟨X.K, lt⟩) preI h
  refine ⟨g, s', r, Post.mono q fun vs H1 ⟨g1, s1', ds, rs1, rv, q1⟩ => ?_⟩
  obtain ⟨es, hd, q2⟩ := liftP q1
  unfold rng2O at hd
  split at hd
  · split at hd
    · rename_i i j hc
      cases hd
      cases rv with
      | cons r1 rr =>
        cases rr with
        | cons r2 rr =>
          cases rr
          cases r1
          cases r2
          exact ⟨i, j, rfl, ⟨hc.1.1, hc.1.2, hc.2.1, hc.2.2⟩, q2 _ H1 g1 rs1 (.refl _ _) (rangeItD i j)⟩
    · cases hd
  · cases hd
def enumO (ds : List D) : Option (List D) := match ds with
  | [d] => (srcD d).map enumL
  | _ => none
def zipO (ds : List D) : Option (List D) := match ds with
  | [d, e] => (srcD d).bind fun xs => (srcD e).map fun ys => zipL xs ys
  | [d, e, f] => (srcD d).bind fun xs => (srcD e).bind fun ys => (srcD f).map fun zs => zip3L xs ys zs
  | _ => none
theorem i_enum {elts : List Expr} {kk : Nat} {tpos : Pos} (hg : Gl X "enumerate") (hm : X.mg "enumerate" = none) (ha : PA X [a] (tL p fl)) (hs : starEach [a] X.env = [(false, eval a X.env)] := by rfl) :
    PI X (.Tuple elts kk tpos) (.Call (.Name "enumerate" pf) [a] [] pos) (tI p (overA enumO fl)) := by
  refine ⟨fun pins s σ H R I h => ?_⟩
  obtain ⟨g, s', r, q⟩ := seqL (K := ⟨X.K, lt⟩) preI h
  refine Call_ (ld_blt I hg hm boot_enumerate (PyProof.Rows.callWith_type1 (thn (ha.run pos pins s σ H _ I ⟨g, s', r, q⟩) fun us s1 ⟨vs, H1, I1, r1, g1, s1', ds, rs1, rv, q1⟩ => ?_) hs rfl))
  obtain ⟨es, hd, q2⟩ := liftP q1
  unfold enumO at hd
  split at hd
  · rename_i d
    cases hsd : srcD d with
    | none => rw [hsd] at hd; cases hd
    | some xs =>
      rw [hsd] at hd
      cases hd
      cases rv with
      | cons rv1 rr =>
        cases rr
        obtain ⟨k, vs, rfl, hk, rr⟩ := src_of rv1 hsd
        have q3 := q2 _ H1 g1 rs1 (.refl _ _) (k.enD hk rr)
        cases r1 with
        | cons ru ruu =>
          cases ruu
          obtain ⟨t, rfl⟩ := KS.rel ru
          obtain ⟨C, hC, B, hfp, _⟩ := k.draws I1 t (k.up rs1.m.sub hk)
          refine call_enum1 B hC fun h' he hit hkp => wpAny_pyIter_enum he ?_
          have n1 : s1.heap.objs.size + 1 ∉ k.fp := fun z => by have : (s1.heap.objs.size + 1 : Nat) < s1.heap.objs.size := hfp _ z; omega
          have n2 : s1.heap.objs.size ∉ k.fp := fun z => by have : (s1.heap.objs.size : Nat) < s1.heap.objs.size := hfp _ z; omega
          have I2 : Inv X pins σ H1 { s1 with heap := h' } := I1.kept (t' := s1.toks) hkp
          refine ⟨s1.heap.objs.size + 1, [s1.heap.objs.size + 1, s1.heap.objs.size], _, _, H1, rfl, I2, turn_e k t (e := s1.heap.objs.size + 1) (it := s1.heap.objs.size) (Nat.succ_ne_self _) n1 n2, ⟨⟨.none, he⟩, k.first t hit⟩, fun b hb => ?_, q3⟩
          have e' : b = s1.heap.objs.size + 1 ∨ b = s1.heap.objs.size := by simpa using hb
          have hle : s1.heap.objs.size ≤ b := by
            rcases e' with z | z
            · rw [z]; exact Nat.le_add_right _ _
            · rw [z]; exact Nat.le_refl _
          exact I1.fpOk hle (I1.hok.fresh hle)
  · cases hd
theorem i_zip {elts : List Expr} {kk : Nat} {tpos : Pos} (hg : Gl X "zip") (hm : X.mg "zip" = none) (ha : PA X (a :: es) (tL p fl)) (hs : starEach (a :: es) X.env = (false, eval a X.env) :: starEach es X.env := by rfl) (hpl : (backTo pos (starEach es X.env)).any (·.1) = false := by rfl) :
    PI X (.Tuple elts kk tpos) (.Call (.Name "zip" pf) (a :: es) [] pos) (tI p (overA zipO fl)) := by
  refine ⟨fun pins s σ H R I h => ?_⟩
  obtain ⟨g, s', r, q⟩ := seqL (K := ⟨X.K, lt⟩) preI h
  have hlen : ∀ us : List Value, True := fun _ => trivial
  refine Call_ (ld_blt I hg hm PyProof.Rows.boot_zip (PyProof.Rows.callWith_type1 (thn (ha.run pos pins s σ H _ I ⟨g, s', r, q⟩) fun us s1 ⟨vs, H1, I1, r1, g1, s1', ds, rs1, rv, q1⟩ => ?_) hs hpl))
  obtain ⟨es, hd, q2⟩ := liftP q1
  unfold zipO at hd
  split at hd
  · rename_i d e
    cases hsd : srcD d with
    | none => rw [hsd] at hd; cases hd
    | some xs =>
      cases hse : srcD e with
      | none => rw [hsd, hse] at hd; cases hd
      | some ys =>
        rw [hsd, hse] at hd
        cases hd
        cases rv with
        | cons rv1 rr =>
          cases rr with
          | cons rv2 rr =>
            cases rr
            obtain ⟨k, vs, rfl, hk, rk⟩ := src_of rv1 hsd
            obtain ⟨l, us, rfl, hl, rl⟩ := src_of rv2 hse
            have q3 := q2 _ H1 g1 rs1 (.refl _ _) (KS.zipD k l hk rk hl rl)
            cases r1 with
            | cons ru ruu =>
              cases ruu with
              | cons ru2 ruu =>
                cases ruu
                obtain ⟨t, rfl⟩ := KS.rel ru
                obtain ⟨t2, rfl⟩ := KS.rel ru2
                obtain ⟨C, hC, B, hfp, _⟩ := k.draws I1 t (k.up rs1.m.sub hk)
                obtain ⟨C2, hC2, B2, hfp2, _⟩ := l.draws I1 t2 (l.up rs1.m.sub hl)
                refine zip_begins2 B B2 hC hC2 fun h' hz hTI hTO h1 h2 hsz hkp => wpAny_pyIter_zip hz ?_
                have I2 : Inv X pins σ H1 { s1 with heap := h' } := I1.kept (t' := s1.toks) hkp
                have n1 : s1.heap.objs.size ∉ k.fp := fun z => by have : (s1.heap.objs.size : Nat) < s1.heap.objs.size := hfp _ z; omega
                have n2 : s1.heap.objs.size + 1 ∉ l.fp := fun z => by have : (s1.heap.objs.size + 1 : Nat) < s1.heap.objs.size := hfp2 _ z; omega
                refine ⟨s1.heap.objs.size + 4, [s1.heap.objs.size + 4, s1.heap.objs.size + 2, s1.heap.objs.size + 3, s1.heap.objs.size, s1.heap.objs.size + 1], _, _, H1, rfl, I2, turn_z k l t t2 (zip_sep2 hfp hfp2) n1 n2, ⟨hz, hTI, ⟨_, _, hTO⟩, k.first t h1, l.first t2 h2⟩, fun c hcm => ?_, q3⟩
                have e' : c = s1.heap.objs.size + 4 ∨ c = s1.heap.objs.size + 2 ∨ c = s1.heap.objs.size + 3 ∨ c = s1.heap.objs.size ∨ c = s1.heap.objs.size + 1 := by simpa using hcm
                have hle : s1.heap.objs.size ≤ c := by
                  rcases e' with z | z | z | z | z
                  · rw [z]; exact Nat.le_add_right _ _
                  · rw [z]; exact Nat.le_add_right _ _
                  · rw [z]; exact Nat.le_add_right _ _
                  · rw [z]; exact Nat.le_refl _
                  · rw [z]; exact Nat.le_add_right _ _
                exact I1.fpOk hle (I1.hok.fresh hle)
  · rename_i d e f
    cases hsd : srcD d with
    | none => rw [hsd] at hd; cases hd
    | some xs =>
      cases hse : srcD e with
      | none => rw [hsd, hse] at hd; cases hd
      | some ys =>
        cases hsf : srcD f with
        | none => rw [hsd, hse, hsf] at hd; cases hd
        | some zs =>
        rw [hsd, hse, hsf] at hd
        cases hd
        cases rv with
        | cons rv1 rr =>
          cases rr with
          | cons rv2 rr =>
            cases rr with
            | cons rv3 rr =>
            cases rr
            obtain ⟨k, vs, rfl, hk, rk⟩ := src_of rv1 hsd
            obtain ⟨l, us, rfl, hl, rl⟩ := src_of rv2 hse
            obtain ⟨m, ts, rfl, hm, rm⟩ := src_of rv3 hsf
            have q3 := q2 _ H1 g1 rs1 (.refl _ _) (KS.zip3D k l m hk rk hl rl hm rm)
            cases r1 with
            | cons ru ruu =>
              cases ruu with
              | cons ru2 ruu =>
                cases ruu with
                | cons ru3 ruu =>
                cases ruu
                obtain ⟨t, rfl⟩ := KS.rel ru
                obtain ⟨t2, rfl⟩ := KS.rel ru2
                obtain ⟨t3, rfl⟩ := KS.rel ru3
                obtain ⟨C, hC, B, hfp, _⟩ := k.draws I1 t (k.up rs1.m.sub hk)
                obtain ⟨C2, hC2, B2, hfp2, _⟩ := l.draws I1 t2 (l.up rs1.m.sub hl)
                obtain ⟨C3, hC3, B3, hfp3, _⟩ := m.draws I1 t3 (m.up rs1.m.sub hm)
                refine zip_begins3 B B2 B3 hC hC2 hC3 fun h' hz hTI hTO h1 h2 h3 hsz hkp => wpAny_pyIter_zip hz ?_
                have I2 : Inv X pins σ H1 { s1 with heap := h' } := I1.kept (t' := s1.toks) hkp
                have n1 : s1.heap.objs.size ∉ k.fp := fun z => by have : (s1.heap.objs.size : Nat) < s1.heap.objs.size := hfp _ z; omega
                have n2 : s1.heap.objs.size + 1 ∉ l.fp := fun z => by have : (s1.heap.objs.size + 1 : Nat) < s1.heap.objs.size := hfp2 _ z; omega
                have n3 : s1.heap.objs.size + 2 ∉ m.fp := fun z => by have : (s1.heap.objs.size + 2 : Nat) < s1.heap.objs.size := hfp3 _ z; omega
                refine ⟨s1.heap.objs.size + 5, [s1.heap.objs.size + 5, s1.heap.objs.size + 3, s1.heap.objs.size + 4, s1.heap.objs.size, s1.heap.objs.size + 1, s1.heap.objs.size + 2], _, _, H1, rfl, I2, turn_z3 k l m t t2 t3 (zip_sep3 hfp hfp2 hfp3) n1 n2 n3, ⟨hz, hTI, ⟨_, _, _, hTO⟩, k.first t h1, l.first t2 h2, m.first t3 h3⟩, fun c hcm => ?_, q3⟩
                have e' : c = s1.heap.objs.size + 5 ∨ c = s1.heap.objs.size + 3 ∨ c = s1.heap.objs.size + 4 ∨ c = s1.heap.objs.size ∨ c = s1.heap.objs.size + 1 ∨ c = s1.heap.objs.size + 2 := by simpa using hcm
                have hle : s1.heap.objs.size ≤ c := by
                  rcases e' with z | z | z | z | z | z
                  · rw [z]; exact Nat.le_add_right _ _
                  · rw [z]; exact Nat.le_add_right _ _
                  · rw [z]; exact Nat.le_add_right _ _
                  · rw [z]; exact Nat.le_refl _
                  · rw [z]; exact Nat.le_add_right _ _
                  · rw [z]; exact Nat.le_add_right _ _
                exact I1.fpOk hle (I1.hok.fresh hle)
  · cases hd
end
end Mp

set_option Elab.async false
set_option linter.all false
set_option maxRecDepth 100000
set_option maxHeartbeats 4000000
namespace Mp
open PySem PySem.Spec L2
open PyProof.Rows hiding St

/-! ### for -/
def forL (t : Tgt) (b : M Fl) : List D → M Fl
  | [] => ret .nx
  | x :: xs => bnd (t x) fun _ => bnd b fun fl => match fl with
    | .nx => forL t b xs
    | .ct => forL t b xs
    | .bk => ret .nx
    | .ret d => ret (.ret d)
def forS (f : M (List D)) (t : Tgt) (b : M Fl) : M Fl := bnd f (forL t b)
/-- a new tuple that a walk hands out -/
theorem yld_go {K : Kx} {p : Pm K} {σ : L2.St} {g : G} {H H'' : Hp} {s : S} {d : D} {x : V} (r : RS p g σ H s)
    (h : (H'' = H ∧ RV K g.F g.φ d x) ∨ ∃ T vs ds, d = .tup ds ∧ x = .ref T ∧ H T = none ∧ H'' = upd H T (.tup vs) ∧ RVs K g.F g.φ ds vs) :
    ∃ g', RS p g' σ H'' s ∧ Ext g H g' H'' ∧ RV K g'.F g'.φ d x := by
  rcases h with ⟨rfl, h⟩ | ⟨T, vs, ds, rfl, rfl, hT, rfl, h⟩
  · exact ⟨g, r, .refl _ _, h⟩
  · exact ⟨_, r.add hT (.tup vs), r.addE hT _, .tup (.inl (.inl G.add_same)) (RVs.up (r.m.addUp hT _) ⟨[], by simp [G.add]⟩ _ _ h)⟩
section
variable {X : Cx} {lt : Nat → LamI} {p : Pm ⟨X.K, lt⟩} {e a b c tg iter : Expr} {es : List Expr} {pos pf : Pos} {fa fb fc : M D} {fl : M (List D)} {fi : M (List D)} {t : Tgt} {fbody f1 : M Fl} {body : List Stmt} {ba : M Bool}
theorem s_for (hp : PassesOwn (model X.prog X.w) X.A X.env X.xe) (hc : X.calm = true) (hi : PI X tg iter (tI p fi)) (hg : PG X tg (gG p t)) (hb : PSs X body (tS p fbody)) (hs : ∀ x, foldedSetIterable iter X.env x = pure x := by intro _; rfl) :
    PS X (.For tg iter body [] pos) (tS p (forS fi t fbody)) := (ps_for hp hc hi hg hb hs).imp fun D σ H ⟨g, s, r, q⟩ => by
  refine ⟨g, s, r, Post.mono (PstS.bnd (A := AI ⟨X.K, lt⟩) q) fun J H1 ⟨g1, s1, xs, r1, e1, it, q1⟩ => ?_⟩
  refine ⟨fun i m σ H => i ≤ xs.length ∧ m = xs.length - i ∧ ∃ g s, RS p g σ H s ∧ ExtS g1 H1 g H ∧ PstS p (forL t fbody (xs.drop i) s) g H D, ⟨xs.length, Nat.zero_le _, rfl, g1, s1, r1, .refl _ _, by rw [List.drop_zero]; exact q1⟩, ?_⟩
  rintro i m σ2 H2 ⟨hi, rfl, g2, s2, r2, e2, q2⟩
  by_cases hlt : i < xs.length
  · have hd : xs.drop i = xs[i] :: xs.drop (i + 1) := (List.getElem_cons_drop hlt).symm
    rw [hd] at q2
    refine .inr ⟨it.go g2 H2 i e2 r2.m.sub hlt, fun σ' H' => ∃ g s, RS p g σ' H' s ∧ ExtS g1 H1 g H' ∧ PstS p (forL t fbody (xs.drop (i + 1)) s) g H' D, fun σ' H' ⟨g3, s3, r3, e3, q3⟩ => ⟨xs.length - (i + 1), by omega, by omega, rfl, g3, s3, r3, e3, q3⟩, fun x H' y => ?_⟩
    obtain ⟨d, hd', h⟩ := it.yld g2 H2 i x H' e2 r2.m.sub hlt y
    have ed : xs[i] = d := by
      rw [List.getElem?_eq_getElem hlt] at hd'
      exact Option.some.inj hd'
    obtain ⟨g3, r3, e3, rv⟩ := yld_go r2 h
    rw [← ed] at rv
    have q3 := PstS.pre e3.s q2
    unfold forL at q3
    refine ⟨g3, s2, xs[i], r3, rv, (PstU.nx q3).mono fun σ4 H4 ⟨g4, s4, r4, e4, q4⟩ => ?_⟩
    refine ⟨g4, s4, r4, ?_⟩
    have e14 := (e2.trans e3.s).trans e4
    unfold bnd at q4
    cases z : fbody s4 with
    | stuck => rw [z] at q4; exact q4.elim
    | err c fs s5 => rw [z] at q4; exact q4
    | ok fl s5 =>
      rw [z] at q4
      cases fl with
      | nx => exact fun σ5 H5 g5 r5 e5 => ⟨g5, s5, r5, e14.trans e5, PstS.pre e5 q4⟩
      | ct => exact fun σ5 H5 g5 r5 e5 => ⟨g5, s5, r5, e14.trans e5, PstS.pre e5 q4⟩
      | bk => exact q4
      | ret d => exact q4
  · have e0 : i = xs.length := by omega
    subst e0
    rw [List.drop_length] at q2
    exact .inl ⟨it.stop g2 H2 e2 r2.m.sub, q2 σ2 H2 g2 r2 (.refl _ _)⟩
/-! ### while -/
def whRun (c : M Bool) (b : M Fl) : Nat → S → Option (R Fl)
  | 0, _ => none
  | n + 1, s => match c s with
    | .ok true s1 => match b s1 with
      | .ok .nx s2 => whRun c b n s2
      | .ok .ct s2 => whRun c b n s2
      | .ok .bk s2 => some (.ok .nx s2)
      | .ok (.ret d) s2 => some (.ok (.ret d) s2)
      | .err k fs s2 => some (.err k fs s2)
      | .stuck => some .stuck
    | .ok false s1 => some (.ok .nx s1)
    | .err k fs s1 => some (.err k fs s1)
    | .stuck => some .stuck
open Classical in
noncomputable def whS (c : M Bool) (b : M Fl) : M Fl := fun s => if h : ∃ n, (whRun c b n s).isSome = true then (whRun c b h.choose s).getD .stuck else .stuck
theorem whRun_mono {c : M Bool} {b : M Fl} : ∀ {n m : Nat} {s : S} {r : R Fl}, whRun c b n s = some r → n ≤ m → whRun c b m s = some r
  | 0, _, _, _, h, _ => by cases h
  | n + 1, 0, _, _, _, hm => by omega
  | n + 1, m + 1, s, r, h, hm => by
    unfold whRun at h ⊢
    cases z : c s with
    | stuck => rw [z] at h; exact h
    | err k fs s1 => rw [z] at h; exact h
    | ok b1 s1 =>
      rw [z] at h
      cases b1 with
      | false => exact h
      | true =>
        simp only at h ⊢
        cases z2 : b s1 with
        | stuck => rw [z2] at h; exact h
        | err k fs s2 => rw [z2] at h; exact h
        | ok fl s2 =>
          rw [z2] at h
          cases fl with
          | nx => exact whRun_mono (n := n) (m := m) h (by omega)
          | ct => exact whRun_mono (n := n) (m := m) h (by omega)
          | bk => exact h
          | ret d => exact h
theorem whS_of {c : M Bool} {b : M Fl} {n : Nat} {s : S} {r : R Fl} (h : whRun c b n s = some r) : whS c b s = r := by
  unfold whS
  have hx : ∃ n, (whRun c b n s).isSome = true := ⟨n, by rw [h]; rfl⟩
  rw [dif_pos hx]
  obtain ⟨r', hr'⟩ := Option.isSome_iff_exists.mp hx.choose_spec
  rw [hr']
  rcases Nat.le_total n hx.choose with z | z
  · rw [whRun_mono h z] at hr'
    exact (Option.some.inj hr').symm
  · rw [whRun_mono hr' z] at h
    exact Option.some.inj h
theorem whS_ok {c : M Bool} {b : M Fl} {s : S} (h : whS c b s ≠ .stuck) : ∃ n, whRun c b n s = some (whS c b s) := by
  unfold whS at h ⊢
  by_cases hx : ∃ n, (whRun c b n s).isSome = true
  · rw [dif_pos hx] at h ⊢
    obtain ⟨r', hr'⟩ := Option.isSome_iff_exists.mp hx.choose_spec
    exact ⟨hx.choose, by rw [hr']; rfl⟩
  · rw [dif_neg hx] at h
    exact absurd rfl h
/-- a step of the loop -/
theorem whS_false {c : M Bool} {b : M Fl} {s s1 : S} (h : c s = .ok false s1) : whS c b s = .ok .nx s1 := whS_of (n := 1) (by unfold whRun; rw [h])
theorem whS_true {c : M Bool} {b : M Fl} {s s1 s2 : S} {r : R Fl} (h : c s = .ok true s1) (h2 : b s1 = .ok .nx s2) (h3 : whS c b s2 = r) (hr : r ≠ .stuck) : whS c b s = r := by
  obtain ⟨n, hn⟩ := whS_ok (by rw [h3]; exact hr)
  refine whS_of (n := n + 1) ?_
  unfold whRun
  rw [h]
  simp only [h2]
  rw [hn, h3]
theorem s_while (hp : PassesOwn (model X.prog X.w) X.A X.env X.xe) (hcx : PT X c (tB p ba)) (hb : PSs X body (tS p fbody)) : PS X (.While c body [] pos) (tS p (whS ba fbody)) := (ps_while hp hcx hb).imp fun D σ H ⟨g, s, r, q⟩ => by
  have hne : whS ba fbody s ≠ .stuck := fun z => by rw [z] at q; exact q
  obtain ⟨n, hn⟩ := whS_ok hne
  refine ⟨fun m σ H => ∃ g s r0, RS p g σ H s ∧ whRun ba fbody m s = some r0 ∧ PstS p r0 g H D, ⟨n, g, s, _, r, hn, q⟩, ?_⟩
  rintro m σ2 H2 ⟨g2, s2, r0, r2, h2, q2⟩
  cases m with
  | zero => cases h2
  | succ m =>
    unfold whRun at h2
    refine ⟨g2, s2, r2, ?_⟩
    cases z : ba s2 with
    | stuck => rw [z] at h2; cases h2; exact q2.elim
    | err k fs s3 => rw [z] at h2; cases h2; exact fun H' g' dx a b c => q2 σ2 H' g' dx a b.s c
    | ok b1 s3 =>
      rw [z] at h2
      intro v H3 g3 r3 e3 a3
      subst a3
      cases v with
      | false =>
        cases h2
        rw [if_neg Bool.false_ne_true]
        exact q2 σ2 H3 g3 r3 e3.s
      | true =>
        rw [if_pos rfl]
        refine ⟨fun σ' H' => ∃ g s r0, RS p g σ' H' s ∧ whRun ba fbody m s = some r0 ∧ PstS p r0 g H' D, fun σ' H' ⟨g4, s4, r4, a, b, c⟩ => ⟨m, by omega, g4, s4, r4, a, b, c⟩, g3, s3, r3, ?_⟩
        simp only at h2
        have q3 := PstS.pre e3.s q2
        cases z2 : fbody s3 with
        | stuck => rw [z2] at h2; cases h2; exact q3.elim
        | err k fs s4 => rw [z2] at h2; cases h2; exact q3
        | ok fl s4 =>
          rw [z2] at h2
          cases fl with
          | nx => exact fun σ5 H5 g5 r5 e5 => ⟨g5, s4, r0, r5, h2, PstS.pre e5 q3⟩
          | ct => exact fun σ5 H5 g5 r5 e5 => ⟨g5, s4, r0, r5, h2, PstS.pre e5 q3⟩
          | bk => cases h2; exact q3
          | ret d => cases h2; exact q3
/-! ### a, b = x, y -/
def par2 (f : M (List D)) (i j : Nat) : M Fl := bnd f fun ds => match ds with
  | [x, y] => bnd (setv i x) fun _ => bnd (setv j y) fun _ => ret .nx
  | _ => stk
def par3 (f : M (List D)) (i j k : Nat) : M Fl := bnd f fun ds => match ds with
  | [x, y, z] => bnd (setv i x) fun _ => bnd (setv j y) fun _ => bnd (setv k z) fun _ => ret .nx
  | _ => stk
theorem setv_use {K : Kx} {p : Pm K} {g : G} {σ : L2.St} {H : Hp} {s : S} {i : Nat} {x : D} {v : V} {k : Unit → M Fl} {D : Ends} (r : RS p g σ H s) (rv : RV K g.F g.φ x v) (q : PstS p (bnd (setv i x) k s) g H D) :
    ∃ g' s', RS p g' (σ.set i (some v)) H s' ∧ Ext g H g' H ∧ PstS p (k () s') g' H D := by
  unfold bnd setv at q
  by_cases hl : i < s.env.length
  · rw [if_pos hl] at q
    exact ⟨_, _, r.setv hl rv, g.dropE H i, PstS.pre (g.dropE H i).s q⟩
  · rw [if_neg hl] at q
    exact q.elim
theorem s_par2 {i j : Nat} {x y : Str} {px py pt : Pos} {kt k2 pt2} (hc : X.calm = true) (hN : X.N.Nodup) (hi : X.N[i]? = some x) (hj : X.N[j]? = some y) (hij : i ≠ j)
    (hx : X.env.scope.names.lookup x = some .local) (hy : X.env.scope.names.lookup y = some .local) (ha : PA X [a, b] (tL p fl))
    (hw : swappedStores [.Tuple [.Name x px, .Name y py] kt pt] (.Tuple [a, b] k2 pt2) X.env = pure (some [x, y]))
    (hs : swapsWithSole [.Tuple [.Name x px, .Name y py] kt pt] (.Tuple [a, b] k2 pt2) pos.line X.env = pure false := by rfl) :
    PS X (.Assign [.Tuple [.Name x px, .Name y py] kt pt] (.Tuple [a, b] k2 pt2) pos) (tS p (par2 fl i j)) := (ps_par hc hN hi hj hij hx hy ha hw hs).imp fun D σ H ⟨g, s, r, q⟩ => by
  refine ⟨g, s, r, Post.mono (PstS.bnd (A := AL ⟨X.K, lt⟩) q) fun vs H1 ⟨g1, s1, ds, r1, e1, rv, q1⟩ => ?_⟩
  split at q1
  · cases rv with
    | cons rv1 rr => cases rr with
      | cons rv2 rr =>
        cases rr
        obtain ⟨g2, s2, r2, e2, q2⟩ := setv_use r1 rv1 q1
        obtain ⟨g3, s3, r3, e3, q3⟩ := setv_use r2 (e2.rv rv2) q2
        exact ⟨_, _, rfl, q3 _ _ _ r3 (.refl _ _)⟩
  · exact q1.elim
theorem s_par3 {i j l : Nat} {x y z : Str} {px py pz pt : Pos} {kt k2 pt2} (hc : X.calm = true) (hN : X.N.Nodup) (hi : X.N[i]? = some x) (hj : X.N[j]? = some y) (hl : X.N[l]? = some z) (hij : i ≠ j) (hil : i ≠ l) (hjl : j ≠ l)
    (hx : X.env.scope.names.lookup x = some .local) (hy : X.env.scope.names.lookup y = some .local) (hz : X.env.scope.names.lookup z = some .local) (ha : PA X [a, b, c] (tL p fl))
    (hw : swappedStores [.Tuple [.Name x px, .Name y py, .Name z pz] kt pt] (.Tuple [a, b, c] k2 pt2) X.env = pure (some [x, y, z]))
    (hs : swapsWithSole [.Tuple [.Name x px, .Name y py, .Name z pz] kt pt] (.Tuple [a, b, c] k2 pt2) pos.line X.env = pure false := by rfl) :
    PS X (.Assign [.Tuple [.Name x px, .Name y py, .Name z pz] kt pt] (.Tuple [a, b, c] k2 pt2) pos) (tS p (par3 fl i j l)) := (ps_par3 hc hN hi hj hl hij hil hjl hx hy hz ha hw hs).imp fun D σ H ⟨g, s, r, q⟩ => by
  refine ⟨g, s, r, Post.mono (PstS.bnd (A := AL ⟨X.K, lt⟩) q) fun vs H1 ⟨g1, s1, ds, r1, e1, rv, q1⟩ => ?_⟩
  split at q1
  · cases rv with
    | cons rv1 rr => cases rr with
      | cons rv2 rr => cases rr with
        | cons rv3 rr =>
          cases rr
          obtain ⟨g2, s2, r2, e2, q2⟩ := setv_use r1 rv1 q1
          obtain ⟨g3, s3, r3, e3, q3⟩ := setv_use r2 (e2.rv rv2) q2
          obtain ⟨g4, s4, r4, e4, q4⟩ := setv_use r3 (e3.rv (e2.rv rv3)) q3
          exact ⟨_, _, _, rfl, q4 _ _ _ r4 (.refl _ _)⟩
  · exact q1.elim
end
end Mp

set_option Elab.async false
set_option linter.all false
set_option maxRecDepth 100000
set_option maxHeartbeats 4000000
namespace Mp
open PySem PySem.Spec L2
open PyProof.Rows hiding St

/-! ### comprehensions: the block's own slots -/
def wipeE (e : List Sl) : List Nat → List Sl
  | [] => e
  | v :: vs => (wipeE e vs).set v .un
def keepVal : Option Sl → Sl
  | some (.val d) => .val d
  | _ => .un
def restE (e0 e : List Sl) : List Nat → List Sl
  | [] => e
  | v :: vs => (restE e0 e vs).set v (keepVal e0[v]?)
def G.dropL (g : G) : List Nat → G
  | [] => g
  | v :: vs => (g.dropL vs).drop v
theorem wipeE_length (e : List Sl) : ∀ vs, (wipeE e vs).length = e.length
  | [] => rfl
  | v :: vs => by unfold wipeE; rw [List.length_set, wipeE_length e vs]
theorem restE_length (e0 e : List Sl) : ∀ vs, (restE e0 e vs).length = e.length
  | [] => rfl
  | v :: vs => by unfold restE; rw [List.length_set, restE_length e0 e vs]
theorem wipe_off {σ : L2.St} {i : Nat} : ∀ {vs : List Nat}, i ∉ vs → (wipe σ vs)[i]? = σ[i]?
  | [], _ => rfl
  | v :: vs, h => by
    unfold wipe
    rw [List.getElem?_set_ne (fun e => h (by simp [e]))]
    exact wipe_off fun z => h (List.mem_cons_of_mem _ z)
theorem restE_off {e0 e : List Sl} {i : Nat} : ∀ {vs : List Nat}, i ∉ vs → (restE e0 e vs)[i]? = e[i]?
  | [], _ => rfl
  | v :: vs, h => by
    unfold restE
    rw [List.getElem?_set_ne (fun e => h (by simp [e]))]
    exact restE_off fun z => h (List.mem_cons_of_mem _ z)
theorem restE_on {e0 e : List Sl} {i : Nat} {sl : Sl} : ∀ {vs : List Nat}, i ∈ vs → (restE e0 e vs)[i]? = some sl → sl = keepVal e0[i]?
  | v :: vs, h, q => by
    unfold restE at q
    by_cases e : v = i
    · subst e
      by_cases hl : v < (restE e0 e vs).length
      · rw [List.getElem?_set_self hl] at q
        exact (Option.some.inj q).symm
      · rw [List.getElem?_eq_none (by rw [List.length_set]; omega)] at q
        cases q
    · rw [List.getElem?_set_ne e] at q
      refine restE_on ?_ q
      rcases List.mem_cons.mp h with z | z
      · exact absurd z.symm e
      · exact z
theorem dropL_F (g : G) : ∀ vs, (g.dropL vs).F = g.F ∧ (g.dropL vs).φ = g.φ
  | [] => ⟨rfl, rfl⟩
  | v :: vs => dropL_F g vs
theorem dropL_om {g : G} {j : Nat} {b : Addr} : ∀ {vs : List Nat}, (g.dropL vs).ω j = some b → j ∉ vs ∧ g.ω j = some b
  | [], h => ⟨by simp, h⟩
  | v :: vs, h => by
    obtain ⟨h1, h2⟩ := drop_om (g := g.dropL vs) h
    obtain ⟨h3, h4⟩ := dropL_om (vs := vs) h2
    exact ⟨fun z => (List.mem_cons.mp z).elim h1 h3, h4⟩
section
variable {K : Kx} {p : Pm K} {σ : L2.St} {g g' : G} {H H' : Hp} {s : S}
theorem RS.wipe (r : RS p g σ H s) : ∀ vs : List Nat, (∀ v ∈ vs, v < s.env.length) → RS p (g.dropL vs) (wipe σ vs) H { s with env := wipeE s.env vs }
  | [], _ => r
  | v :: vs, h => by
    have q := RS.wipe r vs fun w hw => h w (List.mem_cons_of_mem _ hw)
    exact q.unset (i := v) (by show v < (wipeE s.env vs).length; rw [wipeE_length]; exact h v List.mem_cons_self) (o := none)
theorem dropLE (g : G) (H : Hp) : ∀ vs : List Nat, Ext g H (g.dropL vs) H
  | [] => .refl _ _
  | v :: vs => (dropLE g H vs).trans (G.dropE _ H v)
/-- back in the frame -/
theorem RS.rest {s0 : S} {g0 : G} {H0 : Hp} {vs : List Nat} (r0 : RS p g0 σ H0 s0) (e : Ext g0 H0 g H) (m : RM K g H s.ms) (f : RF K p.xc g (L2.wipe σ vs) H s.env) (t : LamX.Tabs p.T H) (hω : ∀ i a, g.ω i = some a → i ∉ vs) :
    RS p g σ H { s with env := restE s0.env s.env vs } := by
  refine r0.go (s' := { s with env := restE s0.env s.env vs }) e.s m ⟨?_, fun i d q => ?_, fun i ds q => ?_, fun i c fs q => ?_, fun i a q => ?_, f.inj⟩ t
  · show (restE s0.env s.env vs).length = _
    rw [restE_length, f.len, wipe_length]
  · by_cases hi : i ∈ vs
    · have z := restE_on hi q
      cases z0 : s0.env[i]? with
      | none => rw [z0] at z; cases z
      | some sl =>
        rw [z0] at z
        cases sl with
        | val d' =>
          cases z
          obtain ⟨v, h1, h2⟩ := r0.f.env i d z0
          exact ⟨v, h1, e.rv h2⟩
        | _ => cases z
    · rw [restE_off hi] at q
      obtain ⟨v, h1, h2⟩ := f.env i d q
      rw [wipe_off hi] at h1
      exact ⟨v, h1, h2⟩
  · by_cases hi : i ∈ vs
    · have z := restE_on hi q
      cases z0 : s0.env[i]? with
      | none => rw [z0] at z; cases z
      | some sl => rw [z0] at z; cases sl <;> cases z
    · rw [restE_off hi] at q
      obtain ⟨a, ws, h1, h2, h3⟩ := f.own i ds q
      rw [wipe_off hi] at h2
      exact ⟨a, ws, h1, h2, h3⟩
  · by_cases hi : i ∈ vs
    · have z := restE_on hi q
      cases z0 : s0.env[i]? with
      | none => rw [z0] at z; cases z
      | some sl => rw [z0] at z; cases sl <;> cases z
    · rw [restE_off hi] at q
      obtain ⟨a, dx, h1, h2, h3⟩ := f.exc i c fs q
      rw [wipe_off hi] at h2
      exact ⟨a, dx, h1, h2, h3⟩
  · obtain ⟨ds, h⟩ := f.is i a q
    exact ⟨ds, by rw [restE_off (hω i a q)]; exact h⟩
/-- a list that the ghost does not know is written -/
theorem RF.offw {xc : Option (Addr × Value × Option Addr)} {env : List Sl} (r : RF K xc g σ H env) {a : Addr} {vs : List V} {o : HO} (h : H a = none ∨ H a = some (.lst vs)) (h1 : ∀ i, g.ω i ≠ some a) : RF K xc g σ (upd H a o) env where
  len := r.len
  env := r.env
  own := fun j ds q => by
    obtain ⟨b, ws, q1, q2, q3, q4, q5, q6⟩ := r.own j ds q
    exact ⟨b, ws, q1, q2, by rw [upd_ne (fun z => h1 j (by rw [← z]; exact q1))]; exact q3, q4, q5, q6⟩
  exc := fun j c fs q => by
    obtain ⟨b, dx, q1, q2, q3⟩ := r.exc j c fs q
    refine ⟨b, dx, q1, q2, ?_⟩
    cases dx with
    | none => exact q3
    | some d =>
      obtain ⟨ws, z1, z2, z3, z4⟩ := q3
      refine ⟨ws, ?_, z2, z3, z4⟩
      have ne : d ≠ a := fun z => by
        rw [z] at z1
        rcases h with h | h
        · rw [h] at z1; cases z1
        · rw [h] at z1; cases z1
      rw [upd_ne ne]
      exact z1
  is := r.is
  inj := r.inj
theorem RM.offw {ms : List (List D)} (m : RM K g H ms) {a : Addr} {o : HO} (h5 : g.F a = none) (h6 : a ∉ g.φ) : RM K g (upd H a o) ms where
  sub := fun b u q => by
    have e : b ≠ a := fun e => by rw [e, h5] at q; cases q
    rw [upd_ne e]
    exact m.sub b u q
  mlen := m.mlen
  mem := fun n b ds q1 q2 => by
    obtain ⟨ws, z1, z2, z3⟩ := m.mem n b ds q1 q2
    have ne : b ≠ a := fun z => h6 (by rw [← z]; exact List.mem_of_getElem? q1)
    exact ⟨ws, by rw [upd_ne ne]; exact z1, z2, z3⟩
  nod := m.nod
theorem Ext.offw {g0 : G} {H0 : Hp} (e : Ext g0 H0 g H) {a : Addr} {o : HO} (hn : H0 a = none) : Ext g0 H0 g (upd H a o) where
  fr := e.fr
  ph := e.ph
  new := e.new
  fnew := e.fnew
  nom := e.nom
  there := fun b u h => by
    by_cases q : b = a
    · subst q; exact ⟨o, upd_same⟩
    · rw [upd_ne q]; exact e.there b u h
  keep := fun b u h n t => by
    have ne : b ≠ a := fun z => by rw [z, hn] at h; cases h
    rw [upd_ne ne]
    exact e.keep b u h n t
theorem tabs_off {T : List (Addr × Str)} {H : Hp} {a : Addr} {vs : List V} {u : HO} (t : LamX.Tabs T H) (h : H a = none ∨ H a = some (.lst vs)) : LamX.Tabs T (upd H a u) := tabs_upd t fun o q => by
  rcases h with h | h
  · rw [h] at q; cases q
  · rw [h] at q
    cases q
    exact ⟨fun _ z => (nomatch z), fun _ z => (nomatch z)⟩
end
/-- the setting within a block: nothing is to be raised there -/
def Pm.blk {K : Kx} (p : Pm K) : Pm K := { p with W := fun _ _ _ _ => False }
theorem RS.toBlk {K : Kx} {p : Pm K} {g : G} {σ : L2.St} {H : Hp} {s : S} (r : RS p g σ H s) : RS p.blk g σ H s := ⟨r.m, r.f, r.tabs, r.bg⟩
theorem RS.ofBlk {K : Kx} {p : Pm K} {g : G} {σ : L2.St} {H : Hp} {s : S} (r : RS p.blk g σ H s) : RS p g σ H s := ⟨r.m, r.f, r.tabs, r.bg⟩
/-! ### targets in a block -/
def PstC {K : Kx} (p : Pm K) (vs : List Nat) (σ : L2.St) (r : R Unit) (g : G) (H : Hp) (Q : L2.St → Hp → Prop) : Prop := match r with
  | .ok _ s' => ∀ σ' H' g', RS p g' σ' H' s' → Ext g H g' H' → wipe σ' vs = wipe σ vs → Q σ' H'
  | _ => False
def cG {K : Kx} (p : Pm K) (vs : List Nat) (t : Tgt) : TG := fun v σ H Q => ∃ g s d, RS p g σ H s ∧ RV K g.F g.φ d v ∧ PstC p vs σ (t d s) g H Q
def cGs {K : Kx} (p : Pm K) (vs : List Nat) (t : List D → M Unit) : TGs := fun us σ H Q => ∃ g s ds, RS p g σ H s ∧ RVs K g.F g.φ ds us ∧ PstC p vs σ (t ds s) g H Q
theorem wipe_set {σ : L2.St} {i : Nat} {o : Option V} : ∀ {vs : List Nat}, i ∈ vs → wipe (σ.set i o) vs = wipe σ vs
  | v :: vs, h => by
    unfold wipe
    by_cases e : v = i
    · subst e
      by_cases hv : v ∈ vs
      · rw [wipe_set hv]
      · have h2 : ∀ {us : List Nat}, v ∉ us → wipe (σ.set v o) us = (wipe σ us).set v o := fun {us} => by
          induction us with
          | nil => intro _; rfl
          | cons u us ih =>
            intro hu
            unfold wipe
            rw [ih fun z => hu (List.mem_cons_of_mem _ z), List.set_comm _ _ (fun e => hu (by simp [e]))]
        rw [h2 hv, List.set_set]
    · have : i ∈ vs := by
        rcases List.mem_cons.mp h with z | z
        · exact absurd z.symm e
        · exact z
      rw [wipe_set this]
theorem wipe_sub {σ : L2.St} {vs : List Nat} : ∀ {us : List Nat}, (∀ u ∈ us, u ∈ vs) → wipe (wipe σ us) vs = wipe σ vs
  | [], _ => rfl
  | u :: us, h => by
    show wipe ((wipe σ us).set u none) vs = _
    rw [wipe_set (h u List.mem_cons_self)]
    exact wipe_sub fun w hw => h w (List.mem_cons_of_mem _ hw)
theorem wipe_wipe {σ : L2.St} {vs : List Nat} : wipe (wipe σ vs) vs = wipe σ vs := wipe_sub fun _ h => h
section
variable {X : Cx} {lt : Nat → LamI} {p : Pm ⟨X.K, lt⟩} {e a b c tg iter elt : Expr} {es : List Expr} {pos pf : Pos} {fa fb fc fe : M D} {fl fi : M (List D)} {t : Tgt} {ba : M Bool} {vs : List Nat}
theorem PstC.bnd {f : M Unit} {k : Unit → M Unit} {σ : L2.St} {g : G} {H : Hp} {s : S} {Q : L2.St → Hp → Prop} (q : PstC p vs σ (Mp.bnd f k s) g H Q) :
    PstC p vs σ (f s) g H fun σ' H' => ∃ g' s', RS p g' σ' H' s' ∧ Ext g H g' H' ∧ PstC p vs σ' (k () s') g' H' Q := by
  unfold Mp.bnd at q
  cases z : f s with
  | stuck => rw [z] at q; exact q
  | err c fs s' => rw [z] at q; exact q
  | ok x s' =>
    rw [z] at q
    refine fun σ' H' g' r e w => ⟨g', s', r, e, ?_⟩
    have q : PstC p vs σ (k () s') g H Q := q
    cases z2 : k () s' with
    | stuck => rw [z2] at q; exact q
    | err c fs s' => rw [z2] at q; exact q
    | ok x s'' =>
      rw [z2] at q
      exact fun σ2 H2 g2 r2 e2 w2 => q σ2 H2 g2 r2 (e.trans e2) (w2.trans w)
theorem PstC.mono {σ : L2.St} {r : R Unit} {g : G} {H : Hp} {Q Q' : L2.St → Hp → Prop} (h : PstC p vs σ r g H Q) (w : ∀ σ' H', Q σ' H' → Q' σ' H') : PstC p vs σ r g H Q' := by
  cases r with
  | ok x s' => exact fun σ' H' g' a b c => w _ _ (h σ' H' g' a b c)
  | err c fs s' => exact h
  | stuck => exact h
theorem c_name {i : Nat} {x : Str} (hv : i ∈ vs) (hN : X.N.Nodup) (hi : X.N[i]? = some x) (hx : Loc X.env.scope x) (hf : X.fn x = true ∨ X.env.scope.names.lookup x = some .local := by first | exact .inl rfl | exact .inr rfl | assumption) : PG X (.Name x pos) (cG p vs (setv i)) :=
  (pg_name hN hi hx hf).imp fun v σ H Q ⟨g, s, d, r, rv, q⟩ => by
    unfold setv at q
    by_cases hl : i < s.env.length
    · rw [if_pos hl] at q
      exact q _ H _ (r.setv hl rv) (g.dropE H i) (wipe_set hv)
    · rw [if_neg hl] at q
      exact q.elim
theorem cs_nil : PGs X [] (cGs p vs tgtN) := pgs_nil.imp fun us σ H Q ⟨g, s, ds, r, rv, q⟩ => by
  cases rv with
  | nil => exact ⟨rfl, q σ H g r (.refl _ _) rfl⟩
  | cons _ _ => exact q.elim
theorem cs_cons {t : Tgt} {u : List D → M Unit} (h1 : PG X e (cG p vs t)) (h2 : PGs X es (cGs p vs u)) (hs : (assignEach (e :: es) X.env).map (·.2) = assign e X.env :: (assignEach es X.env).map (·.2) := by rfl) : PGs X (e :: es) (cGs p vs (tgtC t u)) := (pgs_cons h1 h2 hs).imp fun us σ H Q ⟨g, s, ds, r, rv, q⟩ => by
  cases rv with
  | nil => exact q.elim
  | @cons d v ds us r1 r2 => exact ⟨v, us, rfl, g, s, d, r, r1, (PstC.bnd q).mono fun σ' H' ⟨g', s', r', e', q'⟩ => ⟨g', s', ds, r', e'.rvs r2, q'⟩⟩
theorem c_tup {k n : Nat} {u : List D → M Unit} (hc : X.calm = true) (h : PGs X es (cGs p vs u)) (hn : (assignEach es X.env).length = n := by rfl) (hst : (assignEach es X.env).findIdx? (·.1) = none := by rfl) : PG X (.Tuple es k pos) (cG p vs (tgtT n u)) :=
  (pg_tup hc h hn hst).imp fun v σ H Q ⟨g, s, d, r, rv, q⟩ => by
    unfold tgtT at q
    split at q
    · rename_i xs
      by_cases hl : xs.length = n
      · rw [if_pos hl] at q
        cases rv with
        | @tup a vs _ h1 h2 => exact ⟨a, vs, rfl, SqT.up r.m.sub h1, by rw [← h2.length]; exact hl, g, s, xs, r, h2, q⟩
      · rw [if_neg hl] at q
        exact q.elim
    · exact q.elim
/-- one turn: what it adds -/
def lcT (t : Tgt) (c : M Bool) (f : M D) (x : D) : M (Option D) := bnd (t x) fun _ => bnd c fun k => if k then bnd f (fun y => ret (some y)) else ret none
def lcL (vs : List Nat) (t : Tgt) (c : M Bool) (f : M D) : List D → M (List D)
  | [] => ret []
  | x :: xs => fun s => match lcT t c f x s with
    | .ok o s1 => match lcL vs t c f xs { s1 with env := wipeE s1.env vs } with
      | .ok ys s2 => .ok (o.toList ++ ys) s2
      | _ => .stuck
    | _ => .stuck
def lcM (vs : List Nat) (src : M (List D)) (t : Tgt) (c : M Bool) (f : M D) : M (List D) := bnd src fun xs s =>
  if xs.length ≤ 100000 ∧ ∀ v ∈ vs, v < s.env.length then
    match lcL vs t c f xs { s with env := wipeE s.env vs } with
    | .ok ys s' => .ok ys { s' with env := restE s.env s'.env vs }
    | _ => .stuck
  else .stuck
def yesM : M Bool := ret true
theorem ts_nil : PTs X [] (tB p yesM) := ⟨fun pins s σ H Q I ⟨g, s', r, q⟩ => pts_nil.run pins s σ H Q I (q true H g r (.refl _ _) rfl)⟩
theorem ts_one (h : PT X c (tB p ba)) : PTs X [c] (tB p ba) := pts_one h
/-- the turns, read -/
theorem lc_use {J : It} {xs : List D} {σ : L2.St} {H1 : Hp} {g1 : G} {s1 : S} {Q : VK} (r1 : RS p g1 σ H1 s1) (it : ItD ⟨X.K, lt⟩ J g1 H1 xs) (hsz : xs.length ≤ 100000) (hvs : ∀ v ∈ vs, v < s1.env.length) {ys : List D} {s2 : S}
    (hl : lcL vs t ba fe xs { s1 with env := wipeE s1.env vs } = .ok ys s2)
    (hq : ∀ v H' g', RS p g' σ H' { s2 with env := restE s1.env s2.env vs } → Ext g1 H1 g' H' → AF ⟨X.K, lt⟩ ys v g1 H1 g' H' → Q v H') : ∀ Dd, H1 Dd = none → ∃ W : Nat → Nat → Hp → Prop, (∃ m, W 0 m (upd H1 Dd (.lst []))) ∧ ∀ i m H, W i m H →
  (J.stop i H ∧ Q (.ref Dd) H) ∨ (J.go i H ∧ ∃ Nx : Hp → Prop, (∀ H', Nx H' → ∃ m', m' < m ∧ W (i + 1) m' H') ∧ ∀ x H', J.yld i H x H' → cG p.blk vs t x (wipe σ vs) H' fun σ2 H2 => wipe σ2 vs = wipe σ vs ∧ tB p.blk ba σ2 H2 fun b H3 =>
    if b = true then tD p.blk fe σ2 H3 fun y H4 => ∃ acc, H4 Dd = some (.lst acc) ∧ acc.length < sizeLine ∧ Nx (upd H4 Dd (.lst (acc ++ [y]))) else Nx H3) := by
  intro Dd hD
  have hDF : g1.F Dd = none := by
    cases z : g1.F Dd with
    | none => rfl
    | some o =>
      have := r1.m.sub Dd o z
      rw [hD] at this
      cases this
  have hDφ : Dd ∉ g1.φ := fun z => by
    obtain ⟨n, hn⟩ := List.mem_iff_getElem?.mp z
    have hlt : n < s1.ms.length := by
      rw [r1.m.mlen]
      exact (List.getElem?_eq_some_iff.mp hn).1
    obtain ⟨ws, z1, _⟩ := r1.m.mem n Dd _ hn (List.getElem?_eq_getElem hlt)
    rw [hD] at z1
    cases z1
  have hDω : ∀ j, g1.ω j ≠ some Dd := fun j z => by
    obtain ⟨ds, hd⟩ := r1.f.is j Dd z
    obtain ⟨a, ws, q1, q2, q3, _⟩ := r1.f.own j ds hd
    rw [q1] at z
    cases z
    rw [hD] at q3
    cases q3
  -- the invariant
  obtain ⟨W, hW⟩ : ∃ W : Nat → Nat → Hp → Prop, W = fun i m H => i ≤ xs.length ∧ m = xs.length - i ∧ ∃ (g : G) (s : S) (acc : List V) (zs ws : List D), RS p.blk g (wipe σ vs) H s ∧ Ext g1 H1 g H ∧ H Dd = some (.lst acc) ∧ RVs ⟨X.K, lt⟩ g.F g.φ zs acc ∧ g.F Dd = none ∧ Dd ∉ g.φ ∧ (∀ j, g.ω j ≠ some Dd) ∧
      (∀ i a, g.ω i = some a → i ∉ vs) ∧ acc.length ≤ i ∧ lcL vs t ba fe (xs.drop i) s = .ok ws s2 ∧ ys = zs ++ ws := ⟨_, rfl⟩
  -- from a state ahead of the next turn to the invariant
  have mk : ∀ (i : Nat) (g : G) (σ' : L2.St) (H : Hp) (s : S) (acc : List V) (zs ws : List D), i ≤ xs.length → RS p.blk g σ' H s → wipe σ' vs = wipe σ vs → (∀ v ∈ vs, v < s.env.length) → Ext g1 H1 g H → H Dd = some (.lst acc) → RVs ⟨X.K, lt⟩ g.F g.φ zs acc → g.F Dd = none → Dd ∉ g.φ → (∀ j, g.ω j ≠ some Dd) → acc.length ≤ i →
      lcL vs t ba fe (xs.drop i) { s with env := wipeE s.env vs } = .ok ws s2 → ys = zs ++ ws → W i (xs.length - i) H := by
    intro i g σ' H s acc zs ws hi r hw hv e hH rv hF hφ hω ha hl2 hy
    rw [hW]
    refine ⟨hi, rfl, g.dropL vs, _, acc, zs, ws, by rw [← hw]; exact r.wipe vs hv, e.trans (dropLE g H vs), hH, by rw [(dropL_F g vs).1, (dropL_F g vs).2]; exact rv, by rw [(dropL_F g vs).1]; exact hF, by rw [(dropL_F g vs).2]; exact hφ, fun j z => hω j (dropL_om z).2, fun j a z => (dropL_om z).1, ha, hl2, hy⟩
  have put : ∀ {g : G} {σ' : L2.St} {H : Hp} {s : S} (acc : List V) {vs' : List V}, RS p.blk g σ' H s → Ext g1 H1 g H → (H Dd = none ∨ H Dd = some (.lst vs')) → g.F Dd = none → Dd ∉ g.φ → (∀ j, g.ω j ≠ some Dd) → RS p.blk g σ' (upd H Dd (.lst acc)) s ∧ Ext g1 H1 g (upd H Dd (.lst acc)) := fun {g σ' H s} acc {vs'} r e h1 h2 h3 h4 => by
    have e' := e.offw (o := .lst acc) hD
    have m := r.m.offw (o := .lst acc) h2 h3
    exact ⟨⟨m, r.f.offw h1 h4, tabs_off r.tabs h1, p.B.up r1.bg e'.s m⟩, e'⟩
  refine ⟨W, ⟨xs.length - 0, ?_⟩, ?_⟩
  · obtain ⟨ra, ea⟩ := put (vs' := []) [] r1.toBlk (.refl _ _) (.inl hD) hDF hDφ hDω
    exact mk 0 g1 σ _ s1 [] [] ys (Nat.zero_le _) ra rfl hvs ea upd_same .nil hDF hDφ hDω (Nat.le_refl _) (by rw [List.drop_zero]; exact hl) rfl
  · intro i m H hw
    rw [hW] at hw
    obtain ⟨hi, rfl, g, s, acc, zs, ws, r, e, hH, rv, hF, hφ, hω, hωv, ha, hl2, hy⟩ := hw
    by_cases hlt : i < xs.length
    · have hd : xs.drop i = xs[i] :: xs.drop (i + 1) := (List.getElem_cons_drop hlt).symm
      rw [hd] at hl2
      unfold lcL at hl2
      cases z : lcT t ba fe xs[i] s with
      | stuck => rw [z] at hl2; cases hl2
      | err c fs s' => rw [z] at hl2; cases hl2
      | ok o s3 =>
        rw [z] at hl2
        simp only at hl2
        cases z2 : lcL vs t ba fe (xs.drop (i + 1)) { s3 with env := wipeE s3.env vs } with
        | stuck => rw [z2] at hl2; cases hl2
        | err c fs s' => rw [z2] at hl2; cases hl2
        | ok us s4 =>
          rw [z2] at hl2
          cases hl2
          refine .inr ⟨it.go g H i e.s r.m.sub hlt, W (i + 1) (xs.length - (i + 1)), fun H' h => ⟨_, by omega, h⟩, fun x H' y => ?_⟩
          obtain ⟨d, hd', h⟩ := it.yld g H i x H' e.s r.m.sub hlt y
          have ed : xs[i] = d := by
            rw [List.getElem?_eq_getElem hlt] at hd'
            exact Option.some.inj hd'
          obtain ⟨g3, r3, e3, rv3⟩ := yld_go r h
          rw [← ed] at rv3
          -- what stays true of Dd
          have keepD : ∀ {g' : G} {H'' : Hp}, Ext g H g' H'' → H'' Dd = some (.lst acc) ∧ RVs ⟨X.K, lt⟩ g'.F g'.φ zs acc ∧ g'.F Dd = none ∧ Dd ∉ g'.φ ∧ (∀ j, g'.ω j ≠ some Dd) := fun {g' H''} e' => by
            refine ⟨e'.keep _ _ hH hφ (fun _ z => by cases z), e'.rvs rv, ?_, fun z => ?_, fun j z => ?_⟩
            · cases q : g'.F Dd with
              | none => rfl
              | some o =>
                rcases e'.fnew _ _ q with q | q | ⟨j, q⟩
                · rw [hF] at q; cases q
                · rw [hH] at q; cases q
                · exact absurd q (hω j)
            · rcases e'.new _ z with q | q
              · exact hφ q
              · rw [hH] at q; cases q
            · rcases e'.nom _ _ z with ⟨k, q⟩ | q
              · exact hω k q
              · rw [hH] at q; cases q
          unfold lcT Mp.bnd at z
          refine ⟨g3, s, xs[i], r3, rv3, ?_⟩
          cases zt : t xs[i] s with
          | stuck => rw [zt] at z; cases z
          | err c fs s' => rw [zt] at z; cases z
          | ok _ s5 =>
            rw [zt] at z
            simp only at z
            intro σ5 H5 g5 r5 e5 w5
            refine ⟨w5.trans (by rw [wipe_wipe]), g5, s5, r5, ?_⟩
            cases zc : ba s5 with
            | stuck => rw [zc] at z; cases z
            | err c fs s' => rw [zc] at z; cases z
            | ok k s6 =>
              rw [zc] at z
              simp only at z
              intro v6 H6 g6 r6 e6 a6
              subst a6
              have e36 : Ext g H g6 H6 := (e3.trans e5).trans e6
              have lenOf : ∀ {g' : G} {σ' : L2.St} {H' : Hp} {s' : S}, RS p.blk g' σ' H' s' → wipe σ' vs = wipe σ vs → ∀ v ∈ vs, v < s'.env.length := fun {g' σ' H' s'} r' w v hv => by
                have h1 := r'.f.len
                have h2 : σ'.length = σ.length := by rw [← wipe_length σ' vs, w, wipe_length]
                have h3 := r1.f.len
                have := hvs v hv
                omega
              have w5' : wipe σ5 vs = wipe σ vs := w5.trans (by rw [wipe_wipe])
              cases v6 with
              | false =>
                rw [if_neg Bool.false_ne_true] at z
                rw [if_neg Bool.false_ne_true]
                cases z
                obtain ⟨k1, k2, k3, k4, k5⟩ := keepD e36
                exact mk (i + 1) g6 σ5 H6 _ acc zs us hlt r6 w5' (lenOf r6 w5') (e.trans e36) k1 k2 k3 k4 k5 (by omega) z2 (by rw [hy]; rfl)
              | true =>
                rw [if_pos rfl] at z
                rw [if_pos rfl]
                refine ⟨g6, s6, r6, ?_⟩
                cases zf : fe s6 with
                | stuck => rw [zf] at z; cases z
                | err c fs s' => rw [zf] at z; cases z
                | ok y s7 =>
                  rw [zf] at z
                  cases z
                  intro v7 H7 g7 r7 e7 a7
                  have e37 : Ext g H g7 H7 := e36.trans e7
                  obtain ⟨k1, k2, k3, k4, k5⟩ := keepD e37
                  obtain ⟨r8, e8⟩ := put (acc ++ [v7]) r7 (e.trans e37) (.inr k1) k3 k4 k5
                  refine ⟨acc, k1, Nat.lt_of_lt_of_le (show acc.length < 100001 by omega) (by decide), ?_⟩
                  exact mk (i + 1) g7 σ5 _ _ (acc ++ [v7]) (zs ++ [y]) us hlt r8 w5' (lenOf r8 w5') e8 upd_same (k2.append (.cons a7 .nil)) k3 k4 k5 (by rw [List.length_append]; simp; omega) z2 (by rw [hy]; simp)
    · have e0 : i = xs.length := by omega
      subst e0
      rw [List.drop_length] at hl2
      unfold lcL ret at hl2
      cases hl2
      refine .inl ⟨it.stop g H e.s r.m.sub, hq _ H g (r1.rest e r.m r.f r.tabs hωv) e ⟨Dd, acc, rfl, by rw [hy, List.append_nil]; exact rv, hH, hF, hφ, hω, hD⟩⟩
theorem f_lc {ifs : List Expr} {scope : Scope} {own : List (Str × Nat)} (hc : X.calm = true) (hN : X.N.Nodup) (hi : PI X tg iter (tI p fi)) (ok : BlkOk X.N X.env.scope scope own)
    (hg : ∀ (s : Shared) (H : Hp) (C : Addr) (cl : List (Str × Addr)) (fp : List Addr), PG (X.blk s H scope (compEnvC scope cl C X.env) fp) tg (cG p.blk (own.map (·.2)) t)) (ht : ∀ (s : Shared) (H : Hp) (C : Addr) (cl : List (Str × Addr)) (fp : List Addr), PTs (X.blk s H scope (compEnvC scope cl C X.env) fp) ifs (tB p.blk ba))
    (he : ∀ (s : Shared) (H : Hp) (C : Addr) (cl : List (Str × Addr)) (fp : List Addr), PE (X.blk s H scope (compEnvC scope cl C X.env) fp) elt (tD p.blk fe)) (hs : ∀ x, foldedSetIterable iter X.env x = pure x := by intro _; rfl) :
    PE X (.ListComp elt [⟨tg, iter, ifs, 0⟩] scope pos) (tF p (lcM (own.map (·.2)) fi t ba fe)) := (pe_lc hc hN hi ok hg ht he hs).imp fun σ H Q ⟨g, s, r, q⟩ => by
  refine ⟨g, s, r, Post.mono (Post.bnd (A := AI ⟨X.K, lt⟩) preF q) fun J H1 ⟨g1, s1, xs, r1, e1, it, q1⟩ => ?_⟩
  by_cases hc : xs.length ≤ 100000 ∧ ∀ v ∈ own.map (·.2), v < s1.env.length
  · rw [if_pos hc] at q1
    cases z : lcL (own.map (·.2)) t ba fe xs { s1 with env := wipeE s1.env (own.map (·.2)) } with
    | stuck => rw [z] at q1; exact q1.elim
    | err c fs s' => rw [z] at q1; exact q1.elim
    | ok ys s2 =>
      rw [z] at q1
      exact lc_use r1 it hc.1 hc.2 z q1
  · rw [if_neg hc] at q1
    exact q1.elim
theorem s_lc {i : Nat} {y : Str} {py spos : Pos} {ifs : List Expr} {scope : Scope} {own : List (Str × Nat)} (hc : X.calm = true) (hN : X.N.Nodup) (hy : X.N[i]? = some y) (hyl : X.env.scope.names.lookup y = some .local)
    (hsw : swapsWith (.ListComp elt [⟨tg, iter, ifs, 0⟩] scope pos) (some (.Name y py)) spos.line X.env = pure true) (hi : PI X tg iter (tI p fi)) (ok : BlkOk X.N X.env.scope scope own)
    (hg : ∀ (s : Shared) (H : Hp) (C : Addr) (cl : List (Str × Addr)) (fp : List Addr), PG (X.blk s H scope (compEnvC scope cl C X.env) fp) tg (cG p.blk (own.map (·.2)) t)) (ht : ∀ (s : Shared) (H : Hp) (C : Addr) (cl : List (Str × Addr)) (fp : List Addr), PTs (X.blk s H scope (compEnvC scope cl C X.env) fp) ifs (tB p.blk ba))
    (he : ∀ (s : Shared) (H : Hp) (C : Addr) (cl : List (Str × Addr)) (fp : List Addr), PE (X.blk s H scope (compEnvC scope cl C X.env) fp) elt (tD p.blk fe)) (hs : ∀ x, foldedSetIterable iter X.env x = pure x := by intro _; rfl) :
    PS X (.Assign [.Name y py] (.ListComp elt [⟨tg, iter, ifs, 0⟩] scope pos) spos) (tS p (asgS (frzd (lcM (own.map (·.2)) fi t ba fe)) (setv i))) := (ps_setLc hc hN hy hyl hsw hi ok hg ht he hs).imp fun D σ H ⟨g, s, r, q⟩ => by
  have key : tF p (lcM (own.map (·.2)) fi t ba fe) σ H fun x H1 => gName i x σ H1 D.nx := by
    refine ⟨g, s, r, ?_⟩
    unfold asgS frzd at q
    generalize lcM (own.map (·.2)) fi t ba fe = ff at q ⊢
    unfold bnd at q
    cases z : ff s with
    | stuck => rw [z] at q; exact q.elim
    | err c fs s' => rw [z] at q; exact fun H' g' dx a b c => q σ H' g' dx a b.s c
    | ok ds s1 =>
      rw [z] at q
      intro v H1 g1 r1 e1 ⟨a1, vs1, ev, rv, ha1, hf1, hp1, ho1, hn1⟩
      subst ev
      have q : PstS p (bnd (setv i (.lst ds)) (fun _ => ret .nx) s1) g H D := q
      unfold bnd setv at q
      by_cases hl : i < s1.env.length
      · rw [if_pos hl] at q
        have r2 := r.fz r1 e1 hn1 ha1 hf1 hp1 ho1
        have e2 := e1.fz (vs := vs1) hf1 hn1
        exact q _ _ _ (r2.setv hl (.lst upd_same (RVs.up (fz_up hf1) ⟨[], by simp [G.fz]⟩ _ _ rv))) (e2.trans (G.dropE _ H1 i)).s
      · rw [if_neg hl] at q
        exact q.elim
  obtain ⟨g, s, r, q⟩ := key
  refine ⟨g, s, r, Post.mono (Post.bnd (A := AI ⟨X.K, lt⟩) preF q) fun J H1 ⟨g1, s1, xs, r1, e1, it, q1⟩ => ?_⟩
  by_cases hc : xs.length ≤ 100000 ∧ ∀ v ∈ own.map (·.2), v < s1.env.length
  · rw [if_pos hc] at q1
    cases z : lcL (own.map (·.2)) t ba fe xs { s1 with env := wipeE s1.env (own.map (·.2)) } with
    | stuck => rw [z] at q1; exact q1.elim
    | err c fs s' => rw [z] at q1; exact q1.elim
    | ok ys s2 =>
      rw [z] at q1
      exact lc_use r1 it hc.1 hc.2 z q1
  · rw [if_neg hc] at q1
    exact q1.elim
theorem s_lcown {i : Nat} {y : Str} {py spos : Pos} {ifs : List Expr} {scope : Scope} {own : List (Str × Nat)} (hc : X.calm = true) (hN : X.N.Nodup) (hy : X.N[i]? = some y) (hyl : X.env.scope.names.lookup y = some .local)
    (hsw : swapsWith (.ListComp elt [⟨tg, iter, ifs, 0⟩] scope pos) (some (.Name y py)) spos.line X.env = pure true) (hi : PI X tg iter (tI p fi)) (ok : BlkOk X.N X.env.scope scope own)
    (hg : ∀ (s : Shared) (H : Hp) (C : Addr) (cl : List (Str × Addr)) (fp : List Addr), PG (X.blk s H scope (compEnvC scope cl C X.env) fp) tg (cG p.blk (own.map (·.2)) t)) (ht : ∀ (s : Shared) (H : Hp) (C : Addr) (cl : List (Str × Addr)) (fp : List Addr), PTs (X.blk s H scope (compEnvC scope cl C X.env) fp) ifs (tB p.blk ba))
    (he : ∀ (s : Shared) (H : Hp) (C : Addr) (cl : List (Str × Addr)) (fp : List Addr), PE (X.blk s H scope (compEnvC scope cl C X.env) fp) elt (tD p.blk fe)) (hs : ∀ x, foldedSetIterable iter X.env x = pure x := by intro _; rfl) :
    PS X (.Assign [.Name y py] (.ListComp elt [⟨tg, iter, ifs, 0⟩] scope pos) spos) (tS p (ownS (lcM (own.map (·.2)) fi t ba fe) i)) := (ps_setLc hc hN hy hyl hsw hi ok hg ht he hs).imp fun D σ H ⟨g, s, r, q⟩ => by
  have key : tF p (lcM (own.map (·.2)) fi t ba fe) σ H fun x H1 => gName i x σ H1 D.nx := by
    refine ⟨g, s, r, ?_⟩
    unfold ownS at q
    generalize lcM (own.map (·.2)) fi t ba fe = ff at q ⊢
    unfold bnd at q
    cases z : ff s with
    | stuck => rw [z] at q; exact q.elim
    | err c fs s' => rw [z] at q; exact fun H' g' dx a b c => q σ H' g' dx a b.s c
    | ok ds s1 =>
      rw [z] at q
      intro v H1 g1 r1 e1 ⟨a1, vs1, ev, rv, ha1, hf1, hp1, ho1, hn1⟩
      subst ev
      have q : PstS p (bnd (setown i ds) (fun _ => ret .nx) s1) g H D := q
      unfold bnd setown at q
      by_cases hl : i < s1.env.length
      · rw [if_pos hl] at q
        exact q _ _ _ (r.setown r1 e1.s hl ha1 rv hf1 hp1 ho1 hn1) (e1.s.take hn1)
      · rw [if_neg hl] at q
        exact q.elim
  obtain ⟨g, s, r, q⟩ := key
  refine ⟨g, s, r, Post.mono (Post.bnd (A := AI ⟨X.K, lt⟩) preF q) fun J H1 ⟨g1, s1, xs, r1, e1, it, q1⟩ => ?_⟩
  by_cases hc : xs.length ≤ 100000 ∧ ∀ v ∈ own.map (·.2), v < s1.env.length
  · rw [if_pos hc] at q1
    cases z : lcL (own.map (·.2)) t ba fe xs { s1 with env := wipeE s1.env (own.map (·.2)) } with
    | stuck => rw [z] at q1; exact q1.elim
    | err c fs s' => rw [z] at q1; exact q1.elim
    | ok ys s2 =>
      rw [z] at q1
      exact lc_use r1 it hc.1 hc.2 z q1
  · rw [if_neg hc] at q1
    exact q1.elim
end
end Mp

set_option Elab.async false
set_option linter.all false
set_option maxRecDepth 100000
set_option maxHeartbeats 4000000
namespace Mp
open PySem PySem.Spec L2
open PyProof.Rows hiding St

/-! ### defs, where no repr is under way around -/
structure FnG (P : Program) (w : World) (K : PySem.W.Frag) (mg : Str → Option Value) (base : Heap) (k : Nat) (f : Addr) (fd : FuncData) (ps : List Str) (sp : Sp) : Prop where
  len : ∀ vs H Q E, sp vs H Q E → vs.length = ps.length
  run : ∀ (A : Around) (outer : List Env) (s : Shared) (H : Hp) (args : Args) (us : List Value) (vs : List V) (Q : VK) (E : XK), A.guards = some [] → Room k A → Env0 P w K mg base A outer s H → BindsTo s fd args (ps.zip us) → Vals vs us → sp vs H Q E →
    codeAny (model P w) A (.call (.ref f) args) (CR (L2.CX P w) outer P w H s Q E) s
theorem FnG.mono {P : Program} {w : World} {K : PySem.W.Frag} {mg : Str → Option Value} {base : Heap} {j k : Nat} {f : Addr} {fd : FuncData} {ps : List Str} {sp : Sp} (F : FnG P w K mg base j f fd ps sp) (h : j ≤ k) : FnG P w K mg base k f fd ps sp :=
  ⟨F.len, fun A outer s H args us vs Q E hg hr => F.run A outer s H args us vs Q E hg (hr.mono h)⟩
/-- a def's body's setting -/
abbrev Bx (P : Program) (w : World) (K : PySem.W.Frag) (mg : Str → Option Value) (base : Heap) (N : List Str) (qual : Str) (scope : Scope) (f : Addr) (cd : Value) (A : Around) (outer : List Env) (s : Shared) (H : Hp) (E : XK) : Cx := cxOf (L2.CX P w) P w K mg base N qual scope f cd A outer s H E
theorem fnG_of {P : Program} {w : World} {K : PySem.W.Frag} {mg : Str → Option Value} {base : Heap} {k : Nat} {f : Addr} {x qual : Str} {st : Stmt} {fd : FuncData} {N ps : List Str} {sp : Sp} (F : Fun K x qual st f fd) (S : FnScope N ps (defScope st))
    (len : ∀ vs H Q E, sp vs H Q E → vs.length = ps.length)
    (hbody : ∀ (cdv : Value) (A : Around) (outer : List Env) (s : Shared) (H : Hp) (vs : List V) (Q : VK) (E : XK), A.guards = some [] → Room k (A.deeper (envOfC qual (defScope st) s.heap.objs.size f cdv)) → sp vs H Q E →
      ∃ t, PSs (Bx P w K mg base N qual (defScope st) f cdv A outer s H E) (defBody st) t ∧ t { nx := fun _ H' => Q .non H', rt := Q } (L2.start N vs) H) :
    FnG P w K mg base (k + 1) f fd ps sp := by
  obtain ⟨oc, od, kV, doc, pm, an, cdv, ct, osl, rfl, lk, hcd⟩ := F.ex
  refine ⟨len, fun A outer s H args us vs Q E hgd hr e0 hb r hsp => ?_⟩
  have keepK : ∀ b o, base.get? b = some o → s.heap.get? b = some o := fun b o e => (e0.bs b o e).1
  have bound : ∀ y ∈ ps.zip us, (defScope st).names.lookup y.1 = some .local ∨ ((defScope st).names.lookup y.1 = some .cell ∧ ((cellsFrom (s.heap.objs.size + 1) (defScope st).names []).lookup y.1).isSome = true) := fun y hy =>
    (S.par y.1 (List.of_mem_zip (show (y.1, y.2) ∈ ps.zip us from hy)).1).imp (fun q => q) fun q => ⟨q, PySem.W.cellsFrom_some _ _ _ (.inl q)⟩
  refine codeAny_call_function hr.depth (e0.mod.kin.keeps keepK _ _ lk) rfl S.co S.gen rfl (PySem.W.codeRec_of (e0.mod.kin.keeps keepK) hcd) (hb _ _ _ _ ?_)
  refine wpAny_newFunctionEnv_cells S.kind bound fun env he s1 x => ?_
  subst he
  refine ⟨(e0.mod.nolimit.keeps keepK).keeps x.toInCall.keep, codeAny_func ?_⟩
  obtain ⟨t, ht, hq⟩ := hbody cdv A outer s H vs Q E hgd (hr.deeper _) hsp
  have I := inv_start (CX := L2.CX P w) (cd := cdv) (f := f) (qual := qual) (E := E) S hr.hd e0 (len _ _ _ _ hsp) r x
  refine wpAny_mono (ht.run [] s1 (L2.start N vs) H _ I hq) (fun fl s' hs => ?_) fun e s' hs => hs
  cases fl with
  | ret u =>
    obtain ⟨v, σ', H', J, rv, q⟩ := hs
    exact ⟨v, H', J.os, J.bare, J.base, J.hok, rv, q⟩
  | next =>
    obtain ⟨σ', H', J, q⟩ := hs
    exact ⟨.non, H', J.os, J.bare, J.base, J.hok, rfl, q⟩
  | brk =>
    obtain ⟨_, _, _, q⟩ := hs
    exact False.elim q
  | cont =>
    obtain ⟨_, _, _, q⟩ := hs
    exact False.elim q
/-! ### what a def's mirror promises -/
def spD (K : Kx) (T : List (Addr × Str)) (n : Nat) (F : List D → M D) : Sp := fun vs H Q E => vs.length = n ∧ ∃ (B : Bg K) (g : G) (ms : List (List D)) (ds : List D), (∀ i, g.ω i = none) ∧ RM K g H ms ∧ LamX.Tabs T H ∧ B.P g H ms ∧ RVs K g.F g.φ ds vs ∧
  match F ds ⟨[], ms⟩ with
  | .ok d s' => ∀ v H' g', RM K g' H' s'.ms → LamX.Tabs T H' → (∀ i, g'.ω i = none) → Ext g H g' H' → RV K g'.F g'.φ d v → Q v H'
  | .err c fs s' => ∀ H' g' dx, RM K g' H' s'.ms → LamX.Tabs T H' → (∀ i, g'.ω i = none) → Ext g H g' H' → REx K g' H' fs dx → E c dx H'
  | .stuck => False
/-- a body as a def: n slots, the parameters first -/
def fnM (n k : Nat) (body : M Fl) : List D → M D := fun ds s => if ds.length = k then
    match body ⟨ds.map .val ++ List.replicate (n - k) .un, s.ms⟩ with
    | .ok .nx s' => .ok .non ⟨s.env, s'.ms⟩
    | .ok (.ret d) s' => .ok d ⟨s.env, s'.ms⟩
    | .ok _ _ => .stuck
    | .err c fs s' => .err c fs ⟨s.env, s'.ms⟩
    | .stuck => .stuck
  else .stuck
/-- the slots' own lists are let go -/
def G.clr (g : G) : G := { g with ω := fun _ => none }
section
variable {K : Kx} {p : Pm K} {σ : L2.St} {g g' : G} {H H' : Hp} {s s' : S}
theorem RM.clr {ms : List (List D)} (m : RM K g H ms) : RM K g.clr H ms := ⟨m.sub, m.mlen, m.mem, m.nod⟩
theorem clrE (g : G) (H : Hp) : Ext g H g.clr H := ⟨fun _ _ h => h, ⟨[], by simp [G.clr]⟩, fun _ h => .inl h, fun _ _ h => .inl h, fun i a h => (nomatch h), fun _ o h => ⟨o, h⟩, fun _ _ h _ _ => h⟩
theorem ExtS.clr (e : ExtS g H g' H') (h : ∀ i, g.ω i = none) : Ext g H g'.clr H' where
  fr := e.fr
  ph := e.ph
  new := e.new
  fnew := e.fnew
  nom := fun i a h => nomatch h
  there := e.there
  keep := fun b o q n t => e.keep b o q n (fun i z => by rw [h i] at z; cases z) t
theorem REx.clr {fs : List (Str × D)} {dx : Option Addr} (h : REx K g H fs dx) : REx K g.clr H fs dx := by
  cases dx with
  | none => exact h
  | some d =>
    obtain ⟨vs, z1, z2, z3, z4⟩ := h
    exact ⟨vs, z1, z2, z3, fun i z => nomatch z⟩
theorem start_get {N : List Str} {vs : List V} {i : Nat} (h : i < vs.length) : (L2.start N vs)[i]? = (vs[i]?).map some := by
  unfold L2.start
  rw [List.getElem?_append_left (by simpa using h), List.getElem?_map]
/-- at a def's entry -/
theorem RS.entry {T : List (Addr × Str)} {B : Bg K} {W : WX} {N : List Str} {vs : List V} {ds : List D} {ms : List (List D)} (hω : ∀ i, g.ω i = none) (m : RM K g H ms) (t : LamX.Tabs T H) (b : B.P g H ms) (rv : RVs K g.F g.φ ds vs) (hl : ds.length ≤ N.length) :
    RS (K := K) ⟨T, B, W, none⟩ g (L2.start N vs) H ⟨ds.map .val ++ List.replicate (N.length - ds.length) .un, ms⟩ := by
  have e := rv.length
  refine ⟨m, ⟨?_, fun i d q => ?_, fun i xs q => ?_, fun i c fs q => ?_, fun i a q => ?_, fun i j a q => ?_⟩, t, b⟩
  · unfold L2.start
    simp
    omega
  · have q : (ds.map Sl.val ++ List.replicate (N.length - ds.length) Sl.un)[i]? = some (Sl.val d) := q
    by_cases hi : i < ds.length
    · rw [List.getElem?_append_left (by simpa using hi), List.getElem?_map] at q
      cases z : ds[i]? with
      | none => rw [z] at q; cases q
      | some d' =>
        rw [z] at q
        cases q
        obtain ⟨v, h1, h2⟩ := rv.getD z
        exact ⟨v, by rw [start_get (by omega), h1]; rfl, h2⟩
    · rw [List.getElem?_append_right (by simpa using hi), List.getElem?_replicate] at q
      split at q <;> cases q
  · have q : (ds.map Sl.val ++ List.replicate (N.length - ds.length) Sl.un)[i]? = some (Sl.own xs) := q
    by_cases hi : i < ds.length
    · rw [List.getElem?_append_left (by simpa using hi), List.getElem?_map] at q
      cases z : ds[i]? with
      | none => rw [z] at q; cases q
      | some d' => rw [z] at q; cases q
    · rw [List.getElem?_append_right (by simpa using hi), List.getElem?_replicate] at q
      split at q <;> cases q
  · have q : (ds.map Sl.val ++ List.replicate (N.length - ds.length) Sl.un)[i]? = some (Sl.exc c fs) := q
    by_cases hi : i < ds.length
    · rw [List.getElem?_append_left (by simpa using hi), List.getElem?_map] at q
      cases z : ds[i]? with
      | none => rw [z] at q; cases q
      | some d' => rw [z] at q; cases q
    · rw [List.getElem?_append_right (by simpa using hi), List.getElem?_replicate] at q
      split at q <;> cases q
  · rw [hω i] at q; cases q
  · rw [hω i] at q; cases q
/-- behind a call: the caller's slots stand -/
def G.put (g g' : G) : G := { g' with ω := g.ω }
theorem RS.back {ms' : List (List D)} (r : RS p g σ H s) (e : Ext g.clr H g' H') (m : RM K g' H' ms') (t : LamX.Tabs p.T H') : RS p (g.put g') σ H' { s with ms := ms' } ∧ Ext g H (g.put g') H' := by
  have offF : ∀ {a : Addr} {o : HO}, H a = some o → g.F a = none → g'.F a = none := fun {a o} h1 h2 => by
    cases q : g'.F a with
    | none => rfl
    | some u =>
      rcases e.fnew a u q with z | z | ⟨i, z⟩
      · rw [show g.clr.F a = g.F a from rfl, h2] at z; cases z
      · rw [h1] at z; cases z
      · cases z
  have offφ : ∀ {a : Addr} {o : HO}, H a = some o → a ∉ g.φ → a ∉ g'.φ := fun {a o} h1 h2 q => by
    rcases e.new a q with z | z
    · exact h2 z
    · rw [h1] at z; cases z
  have ex : Ext g H (g.put g') H' := ⟨e.fr, e.ph, e.new, fun a o q => (e.fnew a o q).imp (fun z => z) (fun z => z.imp (fun z => z) fun ⟨i, z⟩ => nomatch z), fun i a q => .inl ⟨i, q⟩, e.there, e.keep⟩
  refine ⟨r.go (s' := { s with ms := ms' }) ex.s ⟨m.sub, m.mlen, m.mem, m.nod⟩ ⟨r.f.len, fun i d q => ?_, fun i ds q => ?_, fun i c fs q => ?_, r.f.is, r.f.inj⟩ t, ex⟩
  · obtain ⟨v, h1, h2⟩ := r.f.env i d q
    exact ⟨v, h1, ex.rv h2⟩
  · obtain ⟨a, vs, h1, h2, h3, h4, h5, h6⟩ := r.f.own i ds q
    exact ⟨a, vs, h1, h2, e.keep _ _ h3 h6 (fun _ z => by cases z), ex.rvs h4, offF h3 h5, offφ h3 h6⟩
  · obtain ⟨a, dx, h1, h2, h3⟩ := r.f.exc i c fs q
    refine ⟨a, dx, h1, h2, ?_⟩
    cases dx with
    | none => exact h3
    | some d =>
      obtain ⟨vs, z1, z2, z3, z4⟩ := h3
      exact ⟨vs, e.keep _ _ z1 z3 (fun _ z => by cases z), ex.rvs z2, offφ z1 z3, z4⟩
end
theorem wx_of {K : Kx} {g g' : G} {H' : Hp} {fs : List (Str × D)} {dx : Option Addr} {σ : L2.St} {p : Pm K} {s : S} (r : RS p (g.put g') σ H' s) (h : REx K g' H' fs dx) : REx K (g.put g') H' fs dx := by
  cases dx with
  | none => exact h
  | some d =>
    obtain ⟨vs, z1, z2, z3, z4⟩ := h
    refine ⟨vs, z1, z2, z3, fun i z => ?_⟩
    obtain ⟨ds, hd⟩ := r.f.is i d z
    obtain ⟨a, ws, q1, q2, q3, _⟩ := r.f.own i ds hd
    rw [q1] at z
    cases z
    rw [z1] at q3
    cases q3
/-- THE RULE for a def -/
theorem fnG_mk {P : Program} {w : World} {K : Kx} {mg : Str → Option Value} {base : Heap} {k : Nat} {f : Addr} {x qual : Str} {st : Stmt} {fd : FuncData} {N ps : List Str} {T : List (Addr × Str)} {body : M Fl} (F : Fun K.K x qual st f fd) (S : FnScope N ps (defScope st))
    (hbody : ∀ (cdv : Value) (A : Around) (outer : List Env) (s : Shared) (H : Hp) (E : XK) (B : Bg K), A.guards = some [] → Room k (A.deeper (envOfC qual (defScope st) s.heap.objs.size f cdv)) →
      PSs (Bx P w K.K mg base N qual (defScope st) f cdv A outer s H E) (defBody st) (tS (K := K) ⟨T, B, fun c d _ H => E c d H, none⟩ body)) :
    FnG P w K.K mg base (k + 1) f fd ps (spD K T ps.length (fnM N.length ps.length body)) := by
  refine fnG_of F S (fun vs H Q E h => h.1) fun cdv A outer s H vs Q E hg hr ⟨hl, B, g, ms, ds, hω, m, t, b, rv, q⟩ => ⟨_, hbody cdv A outer s H E B hg hr, ?_⟩
  have hds : ds.length = ps.length := rv.length.trans hl
  have hN : ps.length ≤ N.length := by have := congrArg List.length S.pre; rw [List.length_take] at this; omega
  refine ⟨g, _, RS.entry (N := N) hω m t b rv (by omega), ?_⟩
  unfold fnM at q
  rw [if_pos hds] at q
  rw [hds]
  cases z : body ⟨ds.map .val ++ List.replicate (N.length - ps.length) .un, ms⟩ with
  | stuck => rw [z] at q; exact q.elim
  | err c fs s' =>
    rw [z] at q
    exact fun σ' H' g' dx r e hx => q H' g'.clr dx r.m.clr r.tabs (fun _ => rfl) (e.clr hω) hx.clr
  | ok fl s' =>
    rw [z] at q
    cases fl with
    | nx => exact fun σ' H' g' r e => q .non H' g'.clr r.m.clr r.tabs (fun _ => rfl) (e.clr hω) .non
    | ret d => exact fun v σ' H' g' r e rv => q v H' g'.clr r.m.clr r.tabs (fun _ => rfl) (e.clr hω) rv
    | bk => exact q.elim
    | ct => exact q.elim
end Mp

set_option Elab.async false
set_option linter.all false
set_option maxRecDepth 100000
set_option maxHeartbeats 4000000
namespace Mp
open PySem PySem.Spec L2
open PyProof.Rows hiding St

/-! ### calls of defs -/
/-- a def's mirror behind its arguments -/
def onMs (m : M D) : M D := fun s => match m ⟨[], s.ms⟩ with
  | .ok d s' => .ok d ⟨s.env, s'.ms⟩
  | .err c fs s' => .err c fs ⟨s.env, s'.ms⟩
  | .stuck => .stuck
def callM (F : List D → M D) (fl : M (List D)) : M D := bnd fl fun ds => onMs (F ds)
def reord {α : Type} (o : List Nat) (xs : List α) : List α := o.filterMap fun i => xs[i]?
def callK (nu nk : Nat) (o : List Nat) (F : List D → M D) (fl fk : M (List D)) : M D := bnd fl fun ds => bnd fk fun es => if ds.length = nu ∧ es.length = nk then onMs (F (ds ++ reord o es)) else stk
/-- how keywords bind -/
def KB (K : PySem.W.Frag) (fd : FuncData) (ps ks : List Str) (nu : Nat) (o : List Nat) : Prop :=
  ∀ (s : Shared) (us ws : List Value), K.In s.heap → us.length = nu → ws.length = ks.length → BindsTo s fd ⟨us, ks.zip ws⟩ (ps.zip (us ++ reord o ws))
theorem RVs.reord {K : Kx} {F : Hp} {φ : List Addr} {ds : List D} {vs : List V} (h : RVs K F φ ds vs) : ∀ o : List Nat, RVs K F φ (Mp.reord o ds) (Mp.reord o vs)
  | [] => .nil
  | i :: o => by
    unfold Mp.reord
    have ih := RVs.reord h o
    unfold Mp.reord at ih
    rw [List.filterMap_cons, List.filterMap_cons]
    cases e : ds[i]? with
    | none =>
      have e2 : vs[i]? = none := by
        rw [List.getElem?_eq_none_iff] at e ⊢
        rw [← h.length]; exact e
      rw [e2]
      exact ih
    | some d =>
      obtain ⟨v, h1, h2⟩ := h.getD e
      rw [h1]
      exact .cons h2 ih
theorem vals_reord {vs : List V} {us : List Value} (h : Vals vs us) : ∀ o : List Nat, Vals (reord o vs) (reord o us)
  | [] => .nil
  | i :: o => by
    unfold reord
    have ih := vals_reord h o
    unfold reord at ih
    rw [List.filterMap_cons, List.filterMap_cons]
    cases e : vs[i]? with
    | none =>
      have e2 : us[i]? = none := by
        rw [List.getElem?_eq_none_iff] at e ⊢
        rw [← h.length]; exact e
      rw [e2]
      exact ih
    | some d =>
      obtain ⟨v, h1, h2⟩ := h.get e
      rw [h1]
      exact .cons h2 ih
theorem seqLL {K : Kx} {p : Pm K} {σ : L2.St} {H : Hp} {γ δ : Type} {A' : γ → δ → G → Hp → G → Hp → Prop} (pa : Pre A') {fa fb : M (List D)} {k : List D → List D → M γ} {Q : δ → Hp → Prop} (h : tG p A' (bnd fa fun x => bnd fb fun y => k x y) σ H Q) :
    tL p fa σ H fun v H1 => tL p fb σ H1 fun u H2 => ∃ g2 s2 x y, RS p g2 σ H2 s2 ∧ RVs K g2.F g2.φ x v ∧ RVs K g2.F g2.φ y u ∧ Post p σ A' (k x y s2) g2 H2 Q := by
  obtain ⟨g, s, r, q⟩ := h
  refine ⟨g, s, r, Post.mono (Post.bnd (A := AL K) pa q) fun v H1 ⟨g1, s1, x, r1, e1, a1, q1⟩ => ?_⟩
  refine ⟨g1, s1, r1, Post.mono (Post.bnd (A := AL K) pa q1) fun u H2 ⟨g2, s2, y, r2, e2, a2, q2⟩ => ⟨g2, s2, x, y, r2, e2.rvs a1, a2, q2⟩⟩
/-- a def with its mirror -/
structure FnD (P : Program) (w : World) (K : Kx) (T : List (Addr × Str)) (mg : Str → Option Value) (base : Heap) (k : Nat) (f : Addr) (fd : FuncData) (ps : List Str) (F : List D → M D) : Prop where
  ok : FnG P w K.K mg base k f fd ps (spD K T ps.length F)
  st : ∀ ds s, ds.length ≠ ps.length → F ds s = .stuck
theorem FnD.mono {P : Program} {w : World} {K : Kx} {T : List (Addr × Str)} {mg : Str → Option Value} {base : Heap} {j k : Nat} {f : Addr} {fd : FuncData} {ps : List Str} {F : List D → M D} (h : FnD P w K T mg base j f fd ps F) (hk : j ≤ k) : FnD P w K T mg base k f fd ps F := ⟨h.ok.mono hk, h.st⟩
theorem fnD_mk {P : Program} {w : World} {K : Kx} {mg : Str → Option Value} {base : Heap} {k : Nat} {f : Addr} {x qual : Str} {st : Stmt} {fd : FuncData} {N ps : List Str} {T : List (Addr × Str)} {body : M Fl} (F : Fun K.K x qual st f fd) (S : FnScope N ps (defScope st))
    (hbody : ∀ (cdv : Value) (A : Around) (outer : List Env) (s : Shared) (H : Hp) (E : XK) (B : Bg K), A.guards = some [] → Room k (A.deeper (envOfC qual (defScope st) s.heap.objs.size f cdv)) →
      PSs (Bx P w K.K mg base N qual (defScope st) f cdv A outer s H E) (defBody st) (tS (K := K) ⟨T, B, fun c d _ H => E c d H, none⟩ body)) :
    FnD P w K T mg base (k + 1) f fd ps (fnM N.length ps.length body) := ⟨fnG_mk F S hbody, fun ds s h => by unfold fnM; rw [if_neg h]⟩
section
variable {X : Cx} {lt : Nat → LamI} {p : Pm ⟨X.K, lt⟩} {e a b c : Expr} {es : List Expr} {kws : List Keyword} {pos pf kpos : Pos} {fa fb fc : M D} {fl fk : M (List D)} {k : Nat} {f : Addr} {fd : FuncData} {ps ks : List Str} {n : Nat} {F : List D → M D} {x : Str}
theorem k_nil : PK X [] (tL p argN) := ⟨fun pos pins s σ H Q I h => pk_nil.run pos pins s σ H Q I (by
  obtain ⟨g, s, r, q⟩ := h
  exact q [] H g r (.refl g H) .nil)⟩
theorem k_cons {nm : Option Str} {r : M (List D)} (he : PE X e (tD p fa)) (ha : PK X kws (tL p r)) : PK X (⟨nm, e, kpos⟩ :: kws) (tL p (argC fa r)) := ⟨fun pos pins s σ H Q I h => (pk_cons he ha).run pos pins s σ H Q I (by
  obtain ⟨g, s, rs, q⟩ := h
  refine ⟨g, s, rs, Post.mono (Post.bnd (A := AV ⟨X.K, lt⟩) preL q) fun v H1 ⟨g1, s1, d, r1, e1, a1, q1⟩ => ?_⟩
  refine ⟨g1, s1, r1, Post.mono (Post.bnd (A := AL ⟨X.K, lt⟩) preL q1) fun vs H2 ⟨g2, s2, ds, r2, e2, a2, q2⟩ => ?_⟩
  exact q2 (v :: vs) H2 g2 r2 (.refl _ _) (.cons (e2.rv a1) a2))⟩
/-- the callee runs -/
theorem run_G {pins : List (Addr × Obj)} {σ : L2.St} {H : Hp} {s : Shared} {Q : VK} {args : Args} {us : List Value} {vs : List V} {ds : List D} {g : G} {s1 : S} (FO : FnG X.prog X.w X.K X.mg X.base k f fd ps (spD ⟨X.K, lt⟩ p.T n F)) (hgd : X.A.guards = some []) (hr : Room k X.A) (tk : Takes X p.W)
    (I : Inv X pins σ H s) (hb : us.length = ps.length → BindsTo s fd args (ps.zip us)) (rv : Vals vs us) (r : RS p g σ H s1) (rd : RVs ⟨X.K, lt⟩ g.F g.φ ds vs) (hn : vs.length = n) (q : Post p σ (AV ⟨X.K, lt⟩) (onMs (F ds) s1) g H Q) :
    codeAny (model X.prog X.w) X.A (.call (.ref f) args) (fun r s' => match r with | .ok (.ret u) => EP X pins σ Q u s' | .ok _ => False | .error e => X.xe e s') s := by
  have hsp : spD ⟨X.K, lt⟩ p.T n F vs H Q (fun c d H' => p.W c d σ H') := by
    refine ⟨hn, p.B, g.clr, s1.ms, ds, fun _ => rfl, r.m.clr, r.tabs, p.B.up r.bg (clrE g H).s r.m.clr, rd, ?_⟩
    unfold onMs at q
    cases z : F ds ⟨[], s1.ms⟩ with
    | stuck => rw [z] at q; exact q.elim
    | ok d s' =>
      rw [z] at q
      intro v H' g' m t hω e rv'
      obtain ⟨r2, e2⟩ := r.back e m t
      exact q v H' _ r2 e2 rv'
    | err c fs s' =>
      rw [z] at q
      intro H' g' dx m t hω e hx
      obtain ⟨r2, e2⟩ := r.back e m t
      exact q H' _ dx r2 e2 (wx_of r2 hx)
  have hl : us.length = ps.length := by rw [← rv.length]; exact FO.len _ _ _ _ hsp
  refine codeAny_mono (FO.run X.A X.stack s H args us vs Q _ hgd hr I.env0 (hb hl) rv hsp) fun r s' hq => ?_
  cases r with
  | error e => exact tk e s' (XE.of_call I (fun cls d H' h => h) hq)
  | ok fl =>
    cases fl with
    | ret u => exact I.after hq
    | next => exact False.elim hq
    | brk => exact False.elim hq
    | cont => exact False.elim hq
theorem call_of {pins : List (Addr × Obj)} {σ : L2.St} {Q : VK} {s : Shared} {us : List Value} {kw : List (Str × Value)} (h : codeAny (model X.prog X.w) X.A (.call (.ref f) ⟨us, kw⟩) (fun r s' => match r with | .ok (.ret u) => EP X pins σ Q u s' | .ok _ => False | .error e => X.xe e s') s) :
    wpAny (model X.prog X.w) X.A (call (.ref f) us kw) (EP X pins σ Q) X.xe s := wpAny_call (codeAny_mono h fun r s' hq => by
  cases r with
  | error e => exact hq
  | ok fl => cases fl <;> exact hq)
/-- f(e, ..) -/
theorem d_call (FO : FnD X.prog X.w ⟨X.K, lt⟩ p.T X.mg X.base k f fd ps F) (hgd : X.A.guards = some []) (hr : Room k X.A) (tk : Takes X p.W) (hg : Gl X x) (hm : X.mg x = some (.ref f)) (hk : PySem.W.keepIn X.K (.ref f) = true) (hb : Binds X.K fd ps [])
    (ha : PA X (e :: es) (tL p fl)) (hdb : (x == ("__debug__" : Str)) = false := by decide) (he : starEach (e :: es) X.env = (false, eval e X.env) :: starEach es X.env := by rfl) (hpl : (backTo pos (starEach es X.env)).any (·.1) = false := by rfl) :
    PE X (.Call (.Name x pf) (e :: es) [] pos) (tD p (callM F fl)) := by
  refine ⟨fun pins s σ H Q I h => ?_⟩
  refine wpAny_Call_Name_kw (ld_glob I hg hm ?_ hdb)
  refine PySem.W.callWith_K (h₀ := X.base) I.ok.mod.kin hk (thn (ha.run pos pins s σ H _ I (seqL preV h)) fun us s1 ⟨vs, H1, I1, r, g1, s1', ds, rs1, rv, q⟩ => ⟨I1.kIn, call_of ?_⟩) he hpl
  have q : Post p σ (AV ⟨X.K, lt⟩) (onMs (F ds) s1') g1 H1 Q := q
  have hlen : vs.length = ps.length := by
    by_cases hz : vs.length = ps.length
    · exact hz
    · unfold onMs at q
      rw [FO.st ds _ (by rw [rv.length]; exact hz)] at q
      exact q.elim
  refine run_G FO.ok hgd hr tk I1 (fun hl => ?_) r rs1 rv hlen q
  have := hb s1 us I1.kIn (by rw [List.append_nil]; exact hl)
  rwa [List.append_nil] at this
/-- f() -/
theorem d_call0 (FO : FnD X.prog X.w ⟨X.K, lt⟩ p.T X.mg X.base k f fd ps F) (hgd : X.A.guards = some []) (hr : Room k X.A) (tk : Takes X p.W) (hg : Gl X x) (hm : X.mg x = some (.ref f)) (hk : PySem.W.keepIn X.K (.ref f) = true) (hb : Binds X.K fd ps [])
    (hps : ps = [] := by rfl) (hdb : (x == ("__debug__" : Str)) = false := by decide) :
    PE X (.Call (.Name x pf) [] [] pos) (tD p (callM F argN)) := by
  refine ⟨fun pins s σ H Q I h => ?_⟩
  refine wpAny_Call_Name_kw (ld_glob I hg hm ?_ hdb)
  obtain ⟨g1, s1', rs1, q⟩ := h
  have q : Post p σ (AV ⟨X.K, lt⟩) (onMs (F []) s1') g1 H Q := q
  refine PySem.W.callWith_K0 I.kIn hk (call_of (run_G FO.ok hgd hr tk I (fun hl => ?_) .nil rs1 .nil (by rw [hps]; rfl) q))
  have := hb s [] I.kIn (by rw [List.append_nil]; exact hl)
  rwa [List.append_nil] at this
/-- f(e, .., k = v, ..) -/
theorem d_callK {o : List Nat} {nu : Nat} (FO : FnD X.prog X.w ⟨X.K, lt⟩ p.T X.mg X.base k f fd ps F) (hgd : X.A.guards = some []) (hr : Room k X.A) (tk : Takes X p.W) (hg : Gl X x) (hm : X.mg x = some (.ref f)) (hk : PySem.W.keepIn X.K (.ref f) = true) (hb : KB X.K fd ps ks nu o)
    (ha : PA X (e :: es) (tL p fl)) (hkw : PK X kws (tL p fk)) (hall : (backToKw pos (keywordEach kws X.env)).all (·.1.isSome) = true := by rfl) (hks : (backToKw pos (keywordEach kws X.env)).filterMap (·.1) = ks := by rfl)
    (hdb : (x == ("__debug__" : Str)) = false := by decide) (he : starEach (e :: es) X.env = (false, eval e X.env) :: starEach es X.env := by rfl)
    (hpl : ((backTo pos (starEach (e :: es) X.env)).any (·.1) || (backToKw pos (keywordEach kws X.env)).any (·.1.isNone)) = false := by rfl) :
    PE X (.Call (.Name x pf) (e :: es) kws pos) (tD p (callK nu ks.length o F fl fk)) := by
  refine ⟨fun pins s σ H Q I h => ?_⟩
  refine wpAny_Call_Name_kw (ld_glob I hg hm ?_ hdb)
  refine PySem.W.callWith_KW (h₀ := X.base) I.ok.mod.kin hk hall (thn (ha.run pos pins s σ H _ I (seqLL preV h)) fun us s1 ⟨vs, H1, I1, r, q1⟩ => ?_) hpl he
  refine thn (hkw.run pos pins s1 σ H1 _ I1 q1) fun ws s2 ⟨zs, H2, I2, rz, g2, s2', ds, es2, rs2, rv, rw', q2⟩ => ⟨I2.kIn, ?_⟩
  rw [hks]
  by_cases hc : ds.length = nu ∧ es2.length = ks.length
  · rw [if_pos hc] at q2
    have q2 : Post p σ (AV ⟨X.K, lt⟩) (onMs (F (ds ++ reord o es2)) s2') g2 H2 Q := q2
    have rd := rv.append (RVs.reord rw' o)
    have hlen : (vs ++ reord o zs).length = ps.length := by
      by_cases hz : (vs ++ reord o zs).length = ps.length
      · exact hz
      · unfold onMs at q2
        rw [FO.st _ _ (by rw [rd.length]; exact hz)] at q2
        exact q2.elim
    refine call_of (run_G FO.ok hgd hr tk I2 (fun _ => hb s2 us ws I2.kIn ?_ ?_) (r.append (vals_reord rz o)) rs2 rd hlen q2)
    · rw [← r.length, ← rv.length]; exact hc.1
    · rw [← rz.length, ← rw'.length]; exact hc.2
  · rw [if_neg hc] at q2
    exact q2.elim
/-- f(k = v, ..) -/
theorem d_callK0 {o : List Nat} (FO : FnD X.prog X.w ⟨X.K, lt⟩ p.T X.mg X.base k f fd ps F) (hgd : X.A.guards = some []) (hr : Room k X.A) (tk : Takes X p.W) (hg : Gl X x) (hm : X.mg x = some (.ref f)) (hk : PySem.W.keepIn X.K (.ref f) = true) (hb : KB X.K fd ps ks 0 o)
    (hkw : PK X kws (tL p fk)) (hall : (backToKw pos (keywordEach kws X.env)).all (·.1.isSome) = true := by rfl) (hks : (backToKw pos (keywordEach kws X.env)).filterMap (·.1) = ks := by rfl)
    (hdb : (x == ("__debug__" : Str)) = false := by decide)
    (hpl : ((backTo pos (starEach [] X.env)).any (·.1) || (backToKw pos (keywordEach kws X.env)).any (·.1.isNone)) = false := by rfl) :
    PE X (.Call (.Name x pf) [] kws pos) (tD p (callK 0 ks.length o F argN fk)) := by
  refine ⟨fun pins s σ H Q I h => ?_⟩
  refine wpAny_Call_Name_kw (ld_glob I hg hm ?_ hdb)
  have h : tD p (bnd fk fun es => if ([] : List D).length = 0 ∧ es.length = ks.length then onMs (F ([] ++ reord o es)) else stk) σ H Q := h
  refine PySem.W.callWith_KW0 (h₀ := X.base) I.ok.mod.kin hk hall (thn (hkw.run pos pins s σ H _ I (seqL preV h)) fun ws s2 ⟨zs, H2, I2, rz, g2, s2', es2, rs2, rw', q2⟩ => ⟨I2.kIn, ?_⟩) hpl
  rw [hks]
  by_cases hc : ([] : List D).length = 0 ∧ es2.length = ks.length
  · rw [if_pos hc] at q2
    have q2 : Post p σ (AV ⟨X.K, lt⟩) (onMs (F ([] ++ reord o es2)) s2') g2 H2 Q := q2
    have rd : RVs ⟨X.K, lt⟩ g2.F g2.φ ([] ++ reord o es2) ([] ++ reord o zs) := (RVs.reord rw' o)
    have hlen : ([] ++ reord o zs).length = ps.length := by
      by_cases hz : ([] ++ reord o zs).length = ps.length
      · exact hz
      · unfold onMs at q2
        rw [FO.st _ _ (by rw [rd.length]; exact hz)] at q2
        exact q2.elim
    refine call_of (run_G (us := [] ++ reord o ws) FO.ok hgd hr tk I2 (fun _ => hb s2 [] ws I2.kIn rfl ?_) (vals_reord rz o) rs2 rd hlen q2)
    rw [← rz.length, ← rw'.length]; exact hc.2
  · rw [if_neg hc] at q2
    exact q2.elim
/-- how keywords bind, from the text -/
theorem kb_mk {K : PySem.W.Frag} {x qual : Str} {st : Stmt} {f : Addr} {fd : FuncData} {ps ks : List Str} {nu : Nat} {o : List Nat} (F : Fun K x qual st f fd)
    (h : ∀ (kV doc pm : Value) (an : Option Addr) (cdv ct : Value) (us ws : List Value), us.length = nu → ws.length = ks.length → bindArgs (PySem.W.fnOf x qual (defArgs st) (defBody st) (defScope st) .none kV doc pm an cdv ct) ⟨us, ks.zip ws⟩ = pure (ps.zip (us ++ reord o ws))) : KB K fd ps ks nu o := by
  obtain ⟨oc, od, kV, doc, pm, an, cdv, ct, osl, rfl, lk, hcd⟩ := F.ex
  exact fun s us ws _ h1 h2 => .of_eq (h kV doc pm an cdv ct us ws h1 h2)
end
end Mp

set_option Elab.async false
set_option linter.all false
set_option maxRecDepth 100000
set_option maxHeartbeats 4000000
namespace Mp
open PySem PySem.Spec L2
open PyProof.Rows hiding St

/-! ### the law's own call -/
/-- what is tracked at the law's entry: the script (unless it is one of the text's own objects), the tables of code objects, still empty -/
def Hinit (K : PySem.W.Frag) (a : Addr) (o : Obj) (ns : List Int) (ts : List Addr) : Hp := fun b =>
  if b ∈ ts then some (.tbl #[]) else if b = a ∧ K.lookup a = none then some (.frz o (.lst (ns.map V.int))) else none
def trivB (K : Kx) : Bg K := ⟨fun _ _ _ => True, fun _ _ _ => trivial⟩
theorem RVs.ints {K : Kx} {F : Hp} {φ : List Addr} : ∀ ns : List Int, RVs K F φ (ns.map D.int) (ns.map V.int)
  | [] => .nil
  | n :: ns => .cons (.int n) (RVs.ints ns)
theorem law_G {P : Program} {w : World} {K : Kx} {T : List (Addr × Str)} {mg mb : Str → Option Value} {k : Nat} {fa a : Addr} {cs : List (Addr × Addr)} {fd : FuncData} {x : Str} {Fm : List D → M D} {s₁ : Shared} {vs : List Value} {ns : List Int}
    (KX : K.K.In s₁.heap) (hns : s₁.heap.Ns mainGlobals mg) (hb : s₁.heap.Ns builtinsNs mb) (hbb : ∀ x : Str, x ≠ "__name__" → mb x = bootBuiltins x) (hlim : s₁.heap.NoLimit) (hg : s₁.gens = #[])
    (hT : ∀ p ∈ cs, s₁.heap.get? p.2 = some { cls := .none, data := .fields #[] }) (nT : ∀ p ∈ cs, K.K.lookup p.2 = none) (C : ∀ p ∈ cs, PySem.W.CodeHd s₁.heap p.1 p.2) (hTT : ∀ p ∈ T, p.1 ∈ cs.map (·.2))
    (hbm : ∃ (bm : Addr) (ob : Obj), mg "__builtins__" = some (.ref bm) ∧ bm ≠ builtinsNs ∧ s₁.heap.get? bm = some ob ∧ ob.cls = .type "module" ∧ ob.dict = some builtinsNs ∧ ob.data = .plain)
    (ha : s₁.heap.get? a = some { cls := .type "list", data := .seq vs.toArray }) (hi : IntsAre vs ns) (hl : ns.length ≤ sizeLine) (hr : Room k callerA) (hgd : callerA.guards = some [])
    (F : ∀ base : Heap, K.K.In base → base.Ns mainGlobals mg → (∀ p ∈ cs, LamX.TabB base mg p.1 p.2) → FnD P w K T mg base k fa fd [x] Fm) (hbind : ∀ (s : Shared) (u : Value), BindsTo s fd ⟨[u], []⟩ [(x, u)])
    (hsp : ∃ s', Fm [.scr (ns.map .int)] ⟨[], []⟩ = .ok (.bl true) s') :
    codeAny (model P w) callerA (.call (.ref fa) ⟨[.ref a], []⟩) (fun r s' => r = .ok (.ret (.bool true)) ∧ OldK s₁.heap s'.heap ∧ s'.os = s₁.os ∧ AllBare s'.gens) s₁ := by
  have rv : Vals (ns.map V.int) vs := vals_ints hi
  obtain ⟨H, hH⟩ : ∃ H, H = Hinit K.K a { cls := .type "list", data := .seq vs.toArray } ns (cs.map (·.2)) := ⟨_, rfl⟩
  have tabOf : ∀ {b : Addr}, b ∈ cs.map (·.2) → H b = some (.tbl #[]) ∧ s₁.heap.get? b = some { cls := .none, data := .fields #[] } := fun {b} h => by
    obtain ⟨p, hp, e⟩ := List.mem_map.mp h
    refine ⟨by rw [hH]; exact if_pos h, ?_⟩
    rw [← e]
    exact hT p hp
  have notTab : ∀ {b : Addr} {o : Obj}, s₁.heap.get? b = some o → o.data ≠ .fields #[] → b ∉ cs.map (·.2) := fun {b o} e d h => by
    have := (tabOf h).2
    rw [e] at this
    cases this
    exact d rfl
  have aT : a ∉ cs.map (·.2) := notTab ha (fun z => by cases z)
  have offA : ∀ {b : Addr}, b ∉ cs.map (·.2) → b ≠ a → H b = none := fun {b} h1 h2 => by
    rw [hH]
    unfold Hinit
    rw [if_neg h1, if_neg (fun z => h2 z.1)]
  have seqA : SqL K.K H a (ns.map V.int) := by
    cases hk : K.K.lookup a with
    | some o =>
      have e := KX a o hk
      rw [ha] at e
      cases e
      exact .inr ⟨_, vs.toArray, _, hk, rfl, rfl, rfl, by rw [List.size_toArray, ← rv.length, List.length_map]; exact hl, by simpa using rv⟩
    | none =>
      refine .inl (.inr ⟨{ cls := .type "list", data := .seq vs.toArray }, ?_⟩)
      rw [hH]
      unfold Hinit
      rw [if_neg aT, if_pos ⟨rfl, hk⟩]
  have hok : HOk P w H s₁.heap := fun b u z => by
    by_cases h1 : b ∈ cs.map (·.2)
    · obtain ⟨e1, e2⟩ := tabOf h1
      rw [e1] at z
      cases z
      exact e2
    · rw [hH] at z
      unfold Hinit at z
      rw [if_neg h1] at z
      by_cases h2 : b = a ∧ K.K.lookup a = none
      · rw [if_pos h2] at z
        cases z
        rw [h2.1]
        exact ⟨ha, by rw [List.length_map]; exact hl, vs, _, rv, ha⟩
      · rw [if_neg h2] at z
        cases z
  -- what isn't the script nor a table isn't tracked
  have free : ∀ {b : Addr} {o : Obj}, s₁.heap.get? b = some o → (∀ vs n, o.data ≠ .seq vs n) → o.data ≠ .fields #[] → H b = none := fun {b o} e h1 h2 =>
    offA (notTab e h2) fun z => by
      rw [z, ha] at e
      cases e
      exact h1 _ _ rfl
  have dictFree : ∀ {b : Addr} {o : Obj} {es : Array DictEntry} {ep : Nat}, s₁.heap.get? b = some o → o.data = .dict es ep → H b = none := fun {b o es ep} e d => free e (fun vs n z => by rw [d] at z; cases z) fun z => by rw [d] at z; cases z
  have nsK : ∀ {b : Addr} {m : Str → Option Value}, s₁.heap.Ns b m → (hidT s₁.heap H).Ns b m := fun {b m} ⟨o, es, ep, e, d, r⟩ => ⟨o, es, ep, hidT_get e (dictFree e d), d, r⟩
  have hKb : K.K.In (hidT s₁.heap H) := fun b o e => hidT_get (KX b o e) (by
    by_cases h1 : b ∈ cs.map (·.2)
    · obtain ⟨p, hp, ep⟩ := List.mem_map.mp h1
      rw [← ep, nT p hp] at e
      cases e
    · rw [hH]
      unfold Hinit
      rw [if_neg h1, if_neg fun z => by rw [z.1, z.2] at e; cases e])
  have TB : ∀ p ∈ cs, LamX.TabB (hidT s₁.heap H) mg p.1 p.2 := fun p hp => by
    have hTp := hT p hp
    obtain ⟨og, eg, epg, hgo, hgd', _⟩ := id hns
    refine ⟨?_, ?_, fun z => ?_⟩
    · obtain ⟨o, us, file, tf, flags, tg, inF, text, tt, e1, r1, r2, r3, r4⟩ := C p hp
      exact ⟨o, us, file, tf, flags, tg, inF, text, tt, hidT_get e1 (free e1 (fun vs n z => by rw [r2] at z; cases z) fun z => by
        rw [r2] at z
        cases z
        simp at r3), r1, r2, r3, r4⟩
    · obtain ⟨bm, ob, b1, b2, b3, b4, b5, b6⟩ := hbm
      refine ⟨bm, ob, b1, b2, fun q => ?_, fun q => ?_, hidT_get b3 (free b3 (fun vs n z => by rw [b6] at z; cases z) fun z => by rw [b6] at z; cases z), b4, b5, b6⟩
      · rw [q, hgo] at b3
        cases b3
        rw [hgd'] at b6
        cases b6
      · rw [q, hTp] at b3
        cases b3
        cases b6
    · rw [z, hTp] at hgo
      cases hgo
      cases hgd'
  have e0 : Env0 P w K.K mg (hidT s₁.heap H) callerA [] s₁ H := ⟨rfl, ⟨hKb, nsK hns, ⟨mb, nsK hb, hbb⟩, let ⟨mc, h1, h2⟩ := hlim; ⟨mc, nsK h1, h2⟩⟩, fun b o e => of_hidT e, Nat.le_of_eq (hidT_size _ _), trivial, fun b hb => absurd (show b ∈ ([] : List Addr) from hb) (by simp), hok, .of_eq hg⟩
  obtain ⟨s', hs'⟩ := hsp
  have prom : spD K T 1 Fm [.ref a] H (fun v _ => v = .bl true) fun _ _ _ => False := by
    refine ⟨rfl, trivB K, ⟨H, [], fun _ => none⟩, [], [.scr (ns.map .int)], fun _ => rfl, ⟨fun _ _ h => h, rfl, fun n b ds h => by simp at h, List.nodup_nil⟩, fun p hp => LamX.TabS.nil (tabOf (hTT p hp)).1, trivial, .cons (.scr seqA (RVs.ints ns)) .nil, ?_⟩
    rw [hs']
    intro v H' g' _ _ _ _ r
    cases r
    rfl
  refine codeAny_mono ((F _ hKb (nsK hns) TB).ok.run callerA [] s₁ H ⟨[.ref a], []⟩ [.ref a] [.ref a] _ _ hgd hr e0 (hbind s₁ (.ref a)) (.cons rfl .nil) prom) fun r s' h => ?_
  cases r with
  | error e =>
    obtain ⟨_, _, _, _, _, _, _, _, _, _, _, _, z⟩ := h
    exact z.elim
  | ok fl =>
    cases fl with
    | next => exact False.elim h
    | brk => exact False.elim h
    | cont => exact False.elim h
    | ret u =>
      obtain ⟨v, H', os, bare, un, hok', r', q⟩ := h
      have q' : v = .bl true := q
      subst q'
      obtain rfl : u = Value.bool true := r'
      have key : ∀ b o, b ∉ cs.map (·.2) → s₁.heap.get? b = some o → s'.heap.get? b = some o := fun b o nb e => by
        cases q : H b with
        | none => exact un.keep b o e q (by intro z; exact absurd (show b ∈ ([] : List Addr) from z) (by simp)) (by simp)
        | some u =>
          rw [hH] at q
          unfold Hinit at q
          rw [if_neg nb] at q
          by_cases h2 : b = a ∧ K.K.lookup a = none
          · have z : H b = some (.frz { cls := .type "list", data := .seq vs.toArray } (.lst (ns.map V.int))) := by
              rw [hH]
              unfold Hinit
              rw [if_neg nb, if_pos h2]
            obtain ⟨e1, _⟩ := hok b _ z
            obtain ⟨e2, _⟩ := hok' b _ (un.frzs b _ _ z)
            rw [e] at e1
            cases e1
            exact e2
          · rw [if_neg h2] at q
            cases q
      have grown : ∀ p ∈ cs, ∃ more : Array Value, s'.heap.get? p.2 = some { cls := .none, data := .fields more } := fun p hp => by
        obtain ⟨more, z⟩ := un.tbls p.2 #[] (tabOf (List.mem_map.mpr ⟨p, hp, rfl⟩)).1
        exact ⟨_, hok' p.2 _ z⟩
      refine ⟨rfl, ⟨fun b o e => ?_, fun b o e => ?_⟩, os, bare⟩
      · by_cases hb : b ∈ cs.map (·.2)
        · obtain ⟨p, hp, ep⟩ := List.mem_map.mp hb
          obtain ⟨more, hm⟩ := grown p hp
          rw [← ep] at e ⊢
          rw [hT p hp] at e
          cases e
          exact .inr (.inl ⟨((C p hp).tab (hT p hp)).isCodeTable, rfl, #[], more, rfl, by rw [Array.empty_append]; exact hm⟩)
        · exact .inl (key b o hb e)
      · by_cases hb : b ∈ cs.map (·.2)
        · obtain ⟨p, hp, ep⟩ := List.mem_map.mp hb
          obtain ⟨more, hm⟩ := grown p hp
          rw [← ep]
          exact ⟨_, hm⟩
        · exact ⟨o, key b o hb e⟩
/-- what is known of the law at the head's heap h -/
def LawG (l : PySem.W.OpenLaw) (w : World) (K : PySem.W.Frag) (k n : Nat) (x : Str) (mg : Str → Option Value) (fa : Addr) (h : Heap) : Prop :=
  ∃ (fd : FuncData) (cs : List (Addr × Addr)) (lt : Nat → LamI) (T : List (Addr × Str)) (Fm : List D → M D), (∀ p ∈ cs, h.get? p.2 = some { cls := .none, data := .fields #[] }) ∧ (∀ p ∈ cs, K.lookup p.2 = none) ∧ (∀ p ∈ cs, PySem.W.CodeHd h p.1 p.2) ∧ (∀ p ∈ T, p.1 ∈ cs.map (·.2)) ∧ (∀ (s : Shared) (u : Value), BindsTo s fd ⟨[u], []⟩ [(x, u)]) ∧
    (∀ ns : List Int, ns.length ≤ n → (∀ z ∈ ns, Builtin.Int.intBits z ≤ 1048576) → ∃ s', Fm [.scr (ns.map .int)] ⟨[], []⟩ = .ok (.bl true) s') ∧
    ∀ base : Heap, K.In base → base.Ns mainGlobals mg → (∀ p ∈ cs, LamX.TabB base mg p.1 p.2) → FnD l.prog w ⟨K, lt⟩ T mg base k fa fd [x] Fm
theorem walk_G {l : PySem.W.OpenLaw} {n k : Nat} {q : Program} {loose : List Str} {XP : (Str → Option Value) → Heap → Prop} {YP : World → Heap → Prop} {d : DefRec} {K : Params → PySem.W.Frag} {x : Str}
    (hn : l.most = some n) (hn2 : n ≤ sizeLine) (hdf : d.params.defaults = []) (hr : Room k callerA) (hgd : callerA.guards = some []) (hY : ∀ (w : World) (h : Heap), YP w h → (K w.params).In h)
    (F : ∀ (w : World) (mg : Str → Option Value) (fa : Addr) (h : Heap), YP w h → (K w.params).In h → h.Ns mainGlobals mg → mg d.name = some (.ref fa) → LawG l w (K w.params) k n x mg fa h) :
    PySem.W.WalkO q loose XP YP l.row.toRowW d [] (fun f vs => PySem.call f vs) := by
  refine Att.attach_callB hn hdf fun w s₀ s₁ mg mb fa o pm cd doc a vs ns G Y ho hd hcd hmg hobj hints hlen hbits hg => ?_
  have KX := hY w _ Y
  obtain ⟨fd, cs, lt, T, Fm, hT, nT, C, hTT, hb, hsp, hF⟩ := F w mg fa _ Y KX G.T.g hmg
  exact law_G (K := ⟨K w.params, lt⟩) KX G.T.g G.T.b G.T.builtins G.T.nolimit hg hT nT C hTT G.T.bmain hobj hints (Nat.le_trans hlen hn2) hr hgd hF hb (hsp ns hlen hbits)
theorem callerA_guards : callerA.guards = some [] := by rfl
end Mp

set_option Elab.async false
set_option linter.all false
set_option maxRecDepth 100000
set_option maxHeartbeats 4000000
namespace Mp
open PySem PySem.Spec L2
open PyProof.Rows hiding St

/-! ### t[::-1] of a tuple -/
section
variable {prog : Program} {w : World} {A : Around} {E : Value → Shared → Prop} {s : Shared}
theorem adjust_rev (n : Nat) : Builtin.Slice.sliceAdjust none none (-1) (n : Int) = ((n : Int) - 1, -1) := rfl
theorem places_rev (n : Nat) : Builtin.Slice.slicePlaces ((n : Int) - 1) (-1) (-1) = n := by
  unfold Builtin.Slice.slicePlaces
  have h1 : ¬ ((-1 : Int) > 0) := by omega
  simp only [h1, if_false]
  by_cases h : ((n : Int) - 1) > -1
  · simp only [if_pos h]
    have : ((n : Int) - 1 - -1 - 1) / (- -1) = (n : Int) - 1 := by
      rw [show (- -1 : Int) = 1 by decide, Int.ediv_one]
      omega
    rw [this]
    omega
  · simp only [if_neg h]
    omega
theorem pick_rev (xs : Array Value) : ((List.range xs.size).filterMap fun (k : Nat) => xs[(((xs.size : Int) - 1) + (k : Int) * (-1)).toNat]?).toArray = xs.toList.reverse.toArray := by
  have e : ((List.range xs.size).filterMap fun (k : Nat) => xs[(((xs.size : Int) - 1) + (k : Int) * (-1)).toNat]?) = ((List.range xs.size).map fun k => xs.size - 1 - k).filterMap (xs[·]?) := by
    rw [List.filterMap_map]
    congr 1
    funext k
    have : (((xs.size : Int) - 1) + (k : Int) * (-1)).toNat = xs.size - 1 - k := by omega
    rw [this]
    rfl
  rw [e, PySem.W.krv_range, List.filterMap_reverse, PySem.W.krv_all]
theorem getItem_tuple_rev {t sl : Addr} {items : Array Value} {u : Tok} {Q : Value → Shared → Prop} (ht : IsTup s.heap t items) (hs : s.heap.IsSliceOf sl .none .none (.int (-1) u))
    (h : Q (.ref s.heap.objs.size) { s with heap := s.heap.push { cls := .type "tuple", data := .seq items.toList.reverse.toArray } }) (hsz : items.size ≤ sizeLine) : wpAny (model prog w) A (getItem (.ref t) (.ref sl)) Q E s := by
  have hok : sizeOk (.seq items.toList.reverse.toArray) := by
    show items.toList.reverse.toArray.size ≤ sizeLine
    rw [List.size_toArray, List.length_reverse, Array.length_toList]
    exact hsz
  obtain ⟨os, hos, hcs, hds⟩ := id hs
  have hTs : s.TypeIs (.ref sl) "slice" := ⟨os, hos, hcs⟩
  unfold getItem
  try with_reducible refine wpAny_holding ?_
  first | refine wpAny_bind (wpAny_pure ?_) | skip
  refine wpAny_bind (wpAny_sequenceKey ht.typeIs (by decide) ?_)
  refine wpAny_bind (wpAny_callSpecial?_slot (name := Str.ofString "__getitem__") ht.typeIs PyProof.Rows.slot_tuple_getitem
    (wpAny_call_entry PyProof.Rows.slot_tuple_getitem ht.typeIs entry_tuple_getitem ?_ (args_tuple_getitem _ _)))
  show wpAny _ _ (Builtin.Tuple.tupleItemsOf (.ref t) >>= _) _ _ s
  refine wpAny_bind (PyProof.Rows.tupleItemsOf_ ht ?_)
  refine wpAny_bind (wpAny_typeOf hTs ?_)
  rw [if_pos (by decide)]
  refine wpAny_bind ?_
  unfold Builtin.Slice.sliceApplied Builtin.Slice.sliceFields
  refine wpAny_bind (wpAny_bind (wpAny_field hos hds (x := .none) rfl (wpAny_bind (wpAny_field hos hds (x := .none) rfl (wpAny_bind (wpAny_field hos hds (x := .int (-1) u) rfl (wpAny_pure ?_)))))))
  refine wpAny_bind (HT.slicePart_ (.int (-1) u) ?_)
  show wpAny _ _ (if ((-1 : Int) == 0) = true then _ else _) _ _ s
  rw [if_neg (by decide)]
  refine wpAny_bind (HT.slicePart_ .none (wpAny_bind (HT.slicePart_ .none (wpAny_bind (wpAny_pure ?_)))))
  show wpAny _ _ (match Builtin.Slice.sliceAdjust none none (-1) (items.size : Int) with | (lo, hi) => pure (lo, (-1 : Int), Builtin.Slice.slicePlaces lo hi (-1))) _ _ s
  rw [adjust_rev]
  show wpAny _ _ (pure ((items.size : Int) - 1, (-1 : Int), Builtin.Slice.slicePlaces ((items.size : Int) - 1) (-1) (-1))) _ _ s
  rw [places_rev]
  refine wpAny_pure ?_
  show wpAny _ _ (if (((items.size : Int) - 1) == 0 && (-1 : Int) == 1 && items.size == items.size) = true then _ else _) _ _ s
  rw [if_neg (by rw [show ((-1 : Int) == 1) = false by decide, Bool.and_false, Bool.false_and]; exact Bool.false_ne_true), pick_rev]
  first
    | exact wpAny_bind (m := Builtin.Tuple.tupleExact _) (wpAny_newObj_type (wpAny_pure ⟨_, rfl, wpAny_pure h⟩) hok)
    | exact wpAny_bind (m := Builtin.Tuple.tupleExact _) (wpAny_newObj_type (wpAny_bind (wpAny_pure (wpAny_pure ⟨_, rfl, wpAny_pure h⟩))) hok)
    | exact wpAny_bind (wpAny_bind (m := Builtin.Tuple.tupleExact _) (wpAny_newObj_type (wpAny_pure (wpAny_pure ⟨_, rfl, wpAny_pure h⟩)) hok))
    | exact wpAny_bind (wpAny_bind (m := Builtin.Tuple.tupleExact _) (wpAny_newObj_type (wpAny_pure ⟨_, rfl, wpAny_pure h⟩) hok))
end
section
variable {X : Cx} {lt : Nat → LamI} {p : Pm ⟨X.K, lt⟩} {e a b c : Expr} {es : List Expr} {pos : Pos} {fa fb fc : M D} {fl : M (List D)}
/-- xs[::-1] of a list or a tuple -/
def revO (x : D) : Option D := match x with
  | .lst xs => some (.lst xs.reverse)
  | .tup xs => some (.tup xs.reverse)
  | _ => none
def revA (f : M D) : M D := bnd f fun x => lift (revO x)
theorem d_revA {k : Nat} {p1 p2 p3 : Pos} (ha : PE X a (tP p fa)) : PE X (.Subscript a (.Slice none none (some (.UnaryOp .USub (.Constant (.int 1) k p1) p2)) p3) pos) (tD p (revA fa)) := by
  refine ⟨fun pins s σ H Q I h => ?_⟩
  refine Subscript_ (thn (ha.run pins s σ H _ I (seqP preV h)) fun v s1 ⟨x, H1, I1, r1, g1, s1', d, rs1, rv, q1⟩ => ?_)
  obtain ⟨z, hz, q2⟩ := liftP q1
  have hst : PO X (some (.UnaryOp .USub (.Constant (.int 1) k p1) p2)) (tPart (tUn (rU fun i => .int (-i)) (tC (.int 1)))) := po_some (pe_un un_neg pe_int)
  refine wpAny_Slice (thn (po_none.run pins s1 σ H1 (fun o H2 => o = none ∧ H2 = H1) I1 ⟨rfl, rfl⟩) fun vl s2 ⟨l, H2, I2, pl, el, e2⟩ => ?_)
  subst el e2
  refine thn (po_none.run pins s2 σ H2 (fun o H3 => o = none ∧ H3 = H2) I2 ⟨rfl, rfl⟩) fun vu s3 ⟨u, H3, I3, pu, eu, e3⟩ => ?_
  subst eu e3
  refine thn (hst.run pins s3 σ H3 (fun o H4 => o = some (-1) ∧ H4 = H3) I3 ⟨1, rfl, -1, rfl, rfl, rfl⟩) fun vs s4 ⟨o, H4, I4, ps, eo, e4⟩ => ?_
  subst eo e4
  have I5 : Inv X pins σ H4 { s4 with heap := s4.heap.push { cls := .type "slice", data := .fields #[vl, vu, vs] } } := I4.kept (t' := s4.toks) fun b ob q => Heap.get?_push_of_some _ q
  unfold revO at hz
  split at hz
  · cases hz
    obtain ⟨ad, us, rfl, h1, h2⟩ := rv.lst rs1.m
    cases r1
    obtain ⟨its, r, ht, hzz⟩ := I5.list (SqL.of h1)
    have hlen := r.length
    show wpAny (model X.prog X.w) X.A (subscriptTail a (.Slice none none (some (.UnaryOp .USub (.Constant (.int 1) k p1) p2)) p3) (.ref ad) (.ref s4.heap.objs.size)) (EP X pins σ Q) X.xe { s4 with heap := s4.heap.push { cls := .type "slice", data := .fields #[vl, vu, vs] } }
    refine tail_any (ops := [.ref ad, .ref s4.heap.objs.size]) ht.isList.typeIs (PySem.slot_list_getitem.lookup) ?_ (by with_unfolding_all rfl)
    refine wpAny_getItem_list_slice ht.isList (Heap.IsSliceOf.new _ vl vu vs) pl pu ps (by decide) ?_ (by rw [List.size_toArray]; omega)
    rw [PySem.W.krv_pick]
    refine ⟨.ref _, _, I5.laid (t' := s4.toks) (o := .lst us.reverse) (fun b ob q => Heap.get?_push_of_some _ q) (Nat.le_refl _) ⟨by rw [List.length_reverse]; exact hzz, _, 0, r.reverse, Heap.get?_push_size _ rfl⟩, rfl, ?_⟩
    have hq := I5.hok.fresh (Nat.le_refl (s4.heap.push { cls := .type "slice", data := .fields #[vl, vu, vs] }).objs.size)
    exact q2 _ _ _ (rs1.add hq _) (rs1.addE hq _) (.lst G.add_same (RVs.up (rs1.m.addUp hq _) ⟨[], by simp [G.add]⟩ _ _ h2.reverse))
  · cases hz
    obtain ⟨ad, us, rfl, h1, h2⟩ := rv.tup rs1.m
    cases r1
    obtain ⟨its, r, ht, hzz⟩ := I5.tuple h1
    have hlen := r.length
    obtain ⟨tk, rfl⟩ : ∃ u, vs = Value.int (-1) u := by
      cases ps with
      | int i t => exact ⟨t, rfl⟩
    cases pl
    cases pu
    show wpAny (model X.prog X.w) X.A (subscriptTail a (.Slice none none (some (.UnaryOp .USub (.Constant (.int 1) k p1) p2)) p3) (.ref ad) (.ref s4.heap.objs.size)) (EP X pins σ Q) X.xe { s4 with heap := s4.heap.push { cls := .type "slice", data := .fields #[.none, .none, .int (-1) tk] } }
    refine tail_any (ops := [.ref ad, .ref s4.heap.objs.size]) ht.typeIs (PyProof.Rows.slot_tuple_getitem.lookup) ?_ (by with_unfolding_all rfl)
    refine getItem_tuple_rev (u := tk) ht (Heap.IsSliceOf.new _ _ _ _) ?_ (by rw [List.size_toArray]; omega)
    refine ⟨.ref _, _, I5.laid (t' := s4.toks) (o := .tup us.reverse) (fun b ob q => Heap.get?_push_of_some _ q) (Nat.le_refl _) ⟨by rw [List.length_reverse]; exact hzz, its.reverse, r.reverse, ⟨_, Heap.get?_push_size _ rfl, rfl, 0, by simp⟩⟩, rfl, ?_⟩
    have hq := I5.hok.fresh (Nat.le_refl (s4.heap.push { cls := .type "slice", data := .fields #[.none, .none, .int (-1) tk] }).objs.size)
    exact q2 _ _ _ (rs1.add hq _) (rs1.addE hq _) (.tup (.inl (.inl G.add_same)) (RVs.up (rs1.m.addUp hq _) ⟨[], by simp [G.add]⟩ _ _ h2.reverse))
  · cases hz
/-! ### list + list, list * int: one rule with the others -/
def catO : O2 := fun x y s => match x, y with
  | .lst xs, .lst ys => if xs.length + ys.length ≤ 100000 then some (.lst (xs ++ ys)) else none
  | x, y => addO x y s
def repO : O2 := fun x y s => match x, y with
  | .lst xs, .int k => if -(2 ^ 63) ≤ k ∧ k < 2 ^ 63 ∧ xs.length * k.toNat ≤ 100000 then some (.lst (List.replicate k.toNat xs).flatten) else none
  | x, y => mulO x y s
theorem o_cat : OpR X (binaryOp .Add) (rO2 p catO) := by
  intro pins s σ H x y v u Q I rx ry h
  obtain ⟨σ', g, s', d, e, z, r, a1, a2, ho, f⟩ := id h
  unfold catO at ho
  split at ho
  · split at ho
    · cases ho
      obtain ⟨a, vs, rfl, h1, h2⟩ := a1.lst r.m
      obtain ⟨b, ws, rfl, h3, h4⟩ := a2.lst r.m
      have l1 := h2.length
      have l2 := h4.length
      exact op_cat pins s σ H _ _ v u Q I rx ry ⟨a, b, vs, ws, rfl, rfl, h1, h3, szL (by omega), fun q hq => f.lst r (h2.append h4) hq⟩
    · cases ho
  · exact o_add pins s σ H x y v u Q I rx ry ⟨σ', g, s', d, e, z, r, a1, a2, ho, f⟩
theorem o_rep : OpR X (binaryOp .Mult) (rO2 p repO) := by
  intro pins s σ H x y v u Q I rx ry h
  obtain ⟨σ', g, s', d, e, z, r, a1, a2, ho, f⟩ := id h
  unfold repO at ho
  split at ho
  · split at ho
    · rename_i hc
      cases ho
      obtain ⟨a, vs, rfl, h1, h2⟩ := a1.lst r.m
      cases a2.int
      have l1 := h2.length
      exact op_rep pins s σ H _ _ v u Q I rx ry ⟨a, _, vs, rfl, rfl, h1, hc.1, hc.2.1, szL (by rw [← l1]; exact hc.2.2), fun q hq => f.lst r (h2.rep _) hq⟩
    · cases ho
  · exact o_mul pins s σ H x y v u Q I rx ry ⟨σ', g, s', d, e, z, r, a1, a2, ho, f⟩
/-- {} -/
theorem d_dct : PE X (.Dict [] [] pos) (tD p (ret .dct)) := pe_dnewK.imp fun σ H Q ⟨g, s, r, q⟩ o ho => q _ _ _ (r.add ho (.dK [])) (r.addE ho _) (.dct G.add_same)
end
end Mp

set_option Elab.async false
set_option linter.all false
set_option maxRecDepth 100000
set_option maxHeartbeats 4000000
/-! the rules in short, with the facts about the text left to the kernel -/
namespace Mp
open PySem PySem.Spec L2
open PyProof.Rows hiding St

theorem bb_len : bootBuiltins "len" = some (.builtin "len") := by decide +kernel
theorem bb_abs : bootBuiltins "abs" = some (.builtin "abs") := by decide +kernel
theorem bb_max : bootBuiltins "max" = some (.builtin "max") := by decide +kernel
theorem bb_min : bootBuiltins "min" = some (.builtin "min") := by decide +kernel
theorem bb_divmod : bootBuiltins "divmod" = some (.builtin "divmod") := by decide +kernel
theorem bb_all : bootBuiltins "all" = some (.builtin "all") := by decide +kernel
theorem bb_any : bootBuiltins "any" = some (.builtin "any") := by decide +kernel
theorem bb_repr : bootBuiltins "repr" = some (.builtin "repr") := by decide +kernel
theorem bb_int : bootBuiltins "int" = some (.type "int") := by decide +kernel
theorem bb_bool : bootBuiltins "bool" = some (.type "bool") := by decide +kernel
theorem bb_str : bootBuiltins "str" = some (.type "str") := by decide +kernel
theorem bb_tuple : bootBuiltins "tuple" = some (.type "tuple") := by decide +kernel
theorem bb_list : bootBuiltins "list" = some (.type "list") := by decide +kernel
theorem bb_dict : bootBuiltins "dict" = some (.type "dict") := by decide +kernel
section
variable {X : Cx} {lt : Nat → LamI} {p : Pm ⟨X.K, lt⟩} {e a b c tg iter elt : Expr} {es : List Expr} {pos pf px pa : Pos} {fa fb fc fe : M D} {fl fi : M (List D)} {ba bb : M Bool} {body st1 st2 : List Stmt} {f1 f2 : M Fl} {t : Tgt}
/-- a local; a cell; a name from around -/
theorem v (i : Nat) {x : Str} (hN : X.N[i]? = some x := by kernel_rfl) (hv : X.env.scope.names.lookup x = some .local := by kernel_rfl) (hd : (x == ("__debug__" : Str)) = false := by kernel_rfl) (hcd : (x == ("__classdict__" : Str)) = false := by kernel_rfl) : PE X (.Name x pos) (tD p (getv i)) := d_var hN (.inl hv) hd hcd
theorem vc (i : Nat) {x : Str} (hN : X.N[i]? = some x := by kernel_rfl) (hv : X.env.scope.names.lookup x = some .cell := by kernel_rfl) (hd : (x == ("__debug__" : Str)) = false := by kernel_rfl) (hcd : (x == ("__classdict__" : Str)) = false := by kernel_rfl) : PE X (.Name x pos) (tD p (getv i)) := d_var hN (.inr (.inl hv)) hd hcd
theorem vf (i : Nat) {x : Str} (hN : X.N[i]? = some x := by kernel_rfl) (hv : X.env.scope.names.lookup x = some .free := by kernel_rfl) (hd : (x == ("__debug__" : Str)) = false := by kernel_rfl) (hcd : (x == ("__classdict__" : Str)) = false := by kernel_rfl) : PE X (.Name x pos) (tD p (getv i)) := d_var hN (.inr (.inr hv)) hd hcd
theorem u (i : Nat) {x : Str} (hN : X.N[i]? = some x := by kernel_rfl) (hv : X.env.scope.names.lookup x = some .local := by kernel_rfl) (hd : (x == ("__debug__" : Str)) = false := by kernel_rfl) (hcd : (x == ("__classdict__" : Str)) = false := by kernel_rfl) : PE X (.Name x pos) (tP p (peekv i)) := p_var hN (.inl hv) hd hcd
theorem uc (i : Nat) {x : Str} (hN : X.N[i]? = some x := by kernel_rfl) (hv : X.env.scope.names.lookup x = some .cell := by kernel_rfl) (hd : (x == ("__debug__" : Str)) = false := by kernel_rfl) (hcd : (x == ("__classdict__" : Str)) = false := by kernel_rfl) : PE X (.Name x pos) (tP p (peekv i)) := p_var hN (.inr (.inl hv)) hd hcd
theorem uf (i : Nat) {x : Str} (hN : X.N[i]? = some x := by kernel_rfl) (hv : X.env.scope.names.lookup x = some .free := by kernel_rfl) (hd : (x == ("__debug__" : Str)) = false := by kernel_rfl) (hcd : (x == ("__classdict__" : Str)) = false := by kernel_rfl) : PE X (.Name x pos) (tP p (peekv i)) := p_var hN (.inr (.inr hv)) hd hcd
/-- a module's int, text, tuple of ints -/
theorem gint {x : Str} {i : Int} (hm : ∃ t, X.mg x = some (.int i t)) (hg : X.env.kindOf x = some .globalImplicit := by kernel_rfl) (hd : (x == ("__debug__" : Str)) = false := by kernel_rfl) : PE X (.Name x pos) (tD p (ret (.int i))) := by
  obtain ⟨t, h⟩ := hm
  exact d_glob hg h (v := .int i) ⟨t, rfl⟩ (fun _ _ => .int i) hd
theorem gstr {x : Str} {i : Str} (hm : ∃ t, X.mg x = some (.str i t)) (hg : X.env.kindOf x = some .globalImplicit := by kernel_rfl) (hd : (x == ("__debug__" : Str)) = false := by kernel_rfl) : PE X (.Name x pos) (tD p (ret (.str i))) := by
  obtain ⟨t, h⟩ := hm
  exact d_glob hg h (v := .str i) ⟨t, rfl⟩ (fun _ _ => .str i) hd
/-- a module's own tuple -/
def GTup (K : PySem.W.Frag) (mg : Str → Option Value) (x : Str) (ds : List D) : Prop := ∃ (a : Addr) (vs : List V), mg x = some (.ref a) ∧ (∀ F, SqT K F a vs) ∧ ∀ (lt : Nat → LamI) F φ, RVs ⟨K, lt⟩ F φ ds vs
theorem gtup {x : Str} {ds : List D} (hm : GTup X.K X.mg x ds) (hg : X.env.kindOf x = some .globalImplicit := by kernel_rfl) (hd : (x == ("__debug__" : Str)) = false := by kernel_rfl) : PE X (.Name x pos) (tD p (ret (.tup ds))) := by
  obtain ⟨ad, vs, h1, h2, h3⟩ := hm
  exact d_glob hg h1 (v := .ref ad) rfl (fun F φ => .tup (h2 F) (h3 lt F φ)) hd
/-! ### built-ins -/
theorem x_len (hm : X.mg "len" = none) (ha : PE X a (tP p fa)) (hg : X.env.kindOf "len" = some .globalImplicit := by kernel_rfl) (he : starEach (a :: []) X.env = (false, eval a X.env) :: starEach [] X.env := by rfl) : PE X (.Call (.Name "len" pf) [a] [] pos) (tD p (op1 lenO fa)) := d_call1 c_len hg hm bb_len ha (by decide) (by decide) he
theorem x_abs (hm : X.mg "abs" = none) (ha : PE X a (tP p fa)) (hg : X.env.kindOf "abs" = some .globalImplicit := by kernel_rfl) (he : starEach (a :: []) X.env = (false, eval a X.env) :: starEach [] X.env := by rfl) : PE X (.Call (.Name "abs" pf) [a] [] pos) (tD p (op1 absO fa)) := d_call1 c_abs hg hm bb_abs ha (by decide) (by decide) he
theorem x_all (hm : X.mg "all" = none) (ha : PE X a (tP p fa)) (hc : X.calm = true := by rfl) (hg : X.env.kindOf "all" = some .globalImplicit := by kernel_rfl) (he : starEach (a :: []) X.env = (false, eval a X.env) :: starEach [] X.env := by rfl) : PE X (.Call (.Name "all" pf) [a] [] pos) (tD p (op1 allO fa)) := d_call1 (c_all hc) hg hm bb_all ha (by decide) (by decide) he
theorem x_any (hm : X.mg "any" = none) (ha : PE X a (tP p fa)) (hc : X.calm = true := by rfl) (hg : X.env.kindOf "any" = some .globalImplicit := by kernel_rfl) (he : starEach (a :: []) X.env = (false, eval a X.env) :: starEach [] X.env := by rfl) : PE X (.Call (.Name "any" pf) [a] [] pos) (tD p (op1 anyO fa)) := d_call1 (c_any hc) hg hm bb_any ha (by decide) (by decide) he
theorem x_repr (hm : X.mg "repr" = none) (hgd : X.A.guards = some []) (hu : X.A.units + 64 < cLine) (ha : PE X a (tP p fa)) (hg : X.env.kindOf "repr" = some .globalImplicit := by kernel_rfl) (he : starEach (a :: []) X.env = (false, eval a X.env) :: starEach [] X.env := by rfl) : PE X (.Call (.Name "repr" pf) [a] [] pos) (tD p (op1 reprO fa)) := d_call1 (c_repr hgd hu) hg hm bb_repr ha (by decide) (by decide) he
theorem x_int (hm : X.mg "int" = none) (ha : PE X a (tP p fa)) (hg : X.env.kindOf "int" = some .globalImplicit := by kernel_rfl) (he : starEach (a :: []) X.env = (false, eval a X.env) :: starEach [] X.env := by rfl) : PE X (.Call (.Name "int" pf) [a] [] pos) (tD p (op1 intO fa)) := d_callT1 c_int hg hm bb_int ha (by decide) (by decide) he
theorem x_str (hm : X.mg "str" = none) (ha : PE X a (tP p fa)) (hg : X.env.kindOf "str" = some .globalImplicit := by kernel_rfl) (he : starEach (a :: []) X.env = (false, eval a X.env) :: starEach [] X.env := by rfl) : PE X (.Call (.Name "str" pf) [a] [] pos) (tD p (op1 strO fa)) := d_callT1 c_str hg hm bb_str ha (by decide) (by decide) he
theorem x_tuple (hm : X.mg "tuple" = none) (ha : PE X a (tP p fa)) (hg : X.env.kindOf "tuple" = some .globalImplicit := by kernel_rfl) (he : starEach (a :: []) X.env = (false, eval a X.env) :: starEach [] X.env := by rfl) : PE X (.Call (.Name "tuple" pf) [a] [] pos) (tD p (op1 tupleO fa)) := d_callT1 c_tuple hg hm bb_tuple ha (by decide) (by decide) he
theorem x_list (hm : X.mg "list" = none) (ha : PE X a (tP p fa)) (hg : X.env.kindOf "list" = some .globalImplicit := by kernel_rfl) (he : starEach (a :: []) X.env = (false, eval a X.env) :: starEach [] X.env := by rfl) : PE X (.Call (.Name "list" pf) [a] [] pos) (tD p (op1 listO fa)) := d_callT1 c_list hg hm bb_list ha (by decide) (by decide) he
theorem x_max (hm : X.mg "max" = none) (ha : PE X a (tP p fa)) (hb : PE X b (tP p fb)) (hc : X.calm = true := by rfl) (hg : X.env.kindOf "max" = some .globalImplicit := by kernel_rfl)
    (he : starEach (a :: [b]) X.env = (false, eval a X.env) :: starEach [b] X.env := by rfl) (he2 : starEach (b :: []) X.env = (false, eval b X.env) :: starEach [] X.env := by rfl) (hpl : (backTo pos (starEach [b] X.env)).any (·.1) = false := by rfl) :
    PE X (.Call (.Name "max" pf) [a, b] [] pos) (tD p (op2 maxO fa fb)) := d_call2 (c_max hc) hg hm bb_max ha hb (by decide) (by decide) he he2 hpl
theorem x_min (hm : X.mg "min" = none) (ha : PE X a (tP p fa)) (hb : PE X b (tP p fb)) (hc : X.calm = true := by rfl) (hg : X.env.kindOf "min" = some .globalImplicit := by kernel_rfl)
    (he : starEach (a :: [b]) X.env = (false, eval a X.env) :: starEach [b] X.env := by rfl) (he2 : starEach (b :: []) X.env = (false, eval b X.env) :: starEach [] X.env := by rfl) (hpl : (backTo pos (starEach [b] X.env)).any (·.1) = false := by rfl) :
    PE X (.Call (.Name "min" pf) [a, b] [] pos) (tD p (op2 minO fa fb)) := d_call2 (c_min hc) hg hm bb_min ha hb (by decide) (by decide) he he2 hpl
theorem x_divmod (hm : X.mg "divmod" = none) (ha : PE X a (tP p fa)) (hb : PE X b (tP p fb)) (hg : X.env.kindOf "divmod" = some .globalImplicit := by kernel_rfl)
    (he : starEach (a :: [b]) X.env = (false, eval a X.env) :: starEach [b] X.env := by rfl) (he2 : starEach (b :: []) X.env = (false, eval b X.env) :: starEach [] X.env := by rfl) (hpl : (backTo pos (starEach [b] X.env)).any (·.1) = false := by rfl) :
    PE X (.Call (.Name "divmod" pf) [a, b] [] pos) (tD p (op2 divmodO fa fb)) := d_call2 c_divmod hg hm bb_divmod ha hb (by decide) (by decide) he he2 hpl
theorem x_gcd {x : Str} (hm : X.mg x = some (.builtin "math.gcd")) (ha : PE X a (tP p fa)) (hb : PE X b (tP p fb)) (hg : X.env.kindOf x = some .globalImplicit := by kernel_rfl) (hdb : (x == ("__debug__" : Str)) = false := by kernel_rfl)
    (he : starEach (a :: [b]) X.env = (false, eval a X.env) :: starEach [b] X.env := by rfl) (he2 : starEach (b :: []) X.env = (false, eval b X.env) :: starEach [] X.env := by rfl) (hpl : (backTo pos (starEach [b] X.env)).any (·.1) = false := by rfl) :
    PE X (.Call (.Name x pf) [a, b] [] pos) (tD p (op2 gcdO fa fb)) := d_callM2 c_gcd hg hm ha hb hdb he he2 hpl
theorem x_isi (T : Ty) (tn : Str) {pt : Pos} (hm : X.mg "isinstance" = none) (hm2 : X.mg tn = none) (hv : bootBuiltins tn = some (.type T.name)) (ha : PE X a (tP p fa)) (hg : X.env.kindOf "isinstance" = some .globalImplicit := by kernel_rfl) (hg2 : X.env.kindOf tn = some .globalImplicit := by kernel_rfl) (hn : tn ≠ "__name__" := by decide) (hdb : (tn == ("__debug__" : Str)) = false := by kernel_rfl)
    (he : starEach (a :: [.Name tn pt]) X.env = (false, eval a X.env) :: starEach [.Name tn pt] X.env := by rfl) (he2 : starEach [.Name tn pt] X.env = (false, eval (.Name tn pt) X.env) :: starEach [] X.env := by rfl) (hpl : (backTo pos (starEach [.Name tn pt] X.env)).any (·.1) = false := by rfl) :
    PE X (.Call (.Name "isinstance" pf) [a, .Name tn pt] [] pos) (tD p (op1 (isiO T) fa)) := d_isi hg hm hg2 hm2 hv ha hn hdb he he2 hpl
/-! ### comparisons -/
theorem kD {op : CmpOp} {o : O2} (ho : OpR X (compareOp op) (rO2 p o)) (ha : PE X a (tP p fa)) (hb : PE X b (tP p fb)) (hm : behindInMarks op b = false := by with_unfolding_all rfl) : PE X (.Compare a [op] [b] pos) (tD p (op2 o fa fb)) := d_cmp ho ha hb hm
theorem kB {op : CmpOp} {o : O2} (ho : OpR X (compareOp op) (rO2 p o)) (ha : PE X a (tP p fa)) (hb : PE X b (tP p fb)) (hm : behindInMarks op b = false := by with_unfolding_all rfl) : PT X (.Compare a [op] [b] pos) (tB p (asB (op2 o fa fb))) := b_cmp ho ha hb hm
/-! ### statements -/
theorem sset (i : Nat) {x : Str} {pos' : Pos} (hN : X.N.Nodup) (ha : PE X a (tD p fa)) (hi : X.N[i]? = some x := by kernel_rfl) (hx : X.env.scope.names.lookup x = some .local := by kernel_rfl) (hs : swapsWith a (some (.Name x pos')) pos.line X.env = pure false := by rfl) :
    PS X (.Assign [.Name x pos'] a pos) (tS p (asgS fa (setv i))) := s_set hN hi (.inl hx) ha hs (.inr hx)
theorem ssetc (i : Nat) {x : Str} {pos' : Pos} (hN : X.N.Nodup) (ha : PE X a (tD p fa)) (hi : X.N[i]? = some x := by kernel_rfl) (hx : X.env.scope.names.lookup x = some .cell := by kernel_rfl) (hs : swapsWith a (some (.Name x pos')) pos.line X.env = pure false := by rfl) (hf : X.fn x = true := by rfl) :
    PS X (.Assign [.Name x pos'] a pos) (tS p (asgS fa (setv i))) := s_set hN hi (.inr hx) ha hs (.inl hf)
theorem sown (i : Nat) {x : Str} {pos' : Pos} (hN : X.N.Nodup) (ha : PE X a (tF p fl)) (hi : X.N[i]? = some x := by kernel_rfl) (hx : X.env.scope.names.lookup x = some .local := by kernel_rfl) (hs : swapsWith a (some (.Name x pos')) pos.line X.env = pure false := by rfl) :
    PS X (.Assign [.Name x pos'] a pos) (tS p (ownS fl i)) := s_own hN hi (.inl hx) ha hs (.inr hx)
theorem sownc (i : Nat) {x : Str} {pos' : Pos} (hN : X.N.Nodup) (ha : PE X a (tF p fl)) (hi : X.N[i]? = some x := by kernel_rfl) (hx : X.env.scope.names.lookup x = some .cell := by kernel_rfl) (hs : swapsWith a (some (.Name x pos')) pos.line X.env = pure false := by rfl) (hf : X.fn x = true := by rfl) :
    PS X (.Assign [.Name x pos'] a pos) (tS p (ownS fl i)) := s_own hN hi (.inr hx) ha hs (.inl hf)
theorem gn (i : Nat) {x : Str} (hN : X.N.Nodup) (hi : X.N[i]? = some x := by kernel_rfl) (hx : X.env.scope.names.lookup x = some .local := by kernel_rfl) : PG X (.Name x pos) (gG p (setv i)) := g_name hN hi (.inl hx) (.inr hx)
theorem gnc (i : Nat) {x : Str} (hN : X.N.Nodup) (hi : X.N[i]? = some x := by kernel_rfl) (hx : X.env.scope.names.lookup x = some .cell := by kernel_rfl) (hf : X.fn x = true := by kernel_rfl) : PG X (.Name x pos) (gG p (setv i)) := g_name hN hi (.inr hx) (.inl hf)
theorem cn (i : Nat) {x : Str} {vs : List Nat} (hN : X.N.Nodup) (hv : i ∈ vs := by decide) (hi : X.N[i]? = some x := by kernel_rfl) (hx : X.env.scope.names.lookup x = some .local := by kernel_rfl) : PG X (.Name x pos) (cG p vs (setv i)) := c_name hv hN hi (.inl hx) (.inr hx)
theorem cnc (i : Nat) {x : Str} {vs : List Nat} (hN : X.N.Nodup) (hv : i ∈ vs := by decide) (hi : X.N[i]? = some x := by kernel_rfl) (hx : X.env.scope.names.lookup x = some .cell := by kernel_rfl) (hf : X.fn x = true := by kernel_rfl) : PG X (.Name x pos) (cG p vs (setv i)) := c_name hv hN hi (.inr hx) (.inl hf)
theorem sapp (i : Nat) {x : Str} (ha : PE X a (tD p fa)) (hN : X.N[i]? = some x := by kernel_rfl) (hv : X.env.scope.names.lookup x = some .local := by kernel_rfl) (hs : swapsWith (.Call (.Attribute (.Name x px) "append" pa) [a] [] pos) none pos.line X.env = pure false := by rfl)
    (hbase : attributeBase (.Name x px) "append" X.env (eval (.Name x px) X.env) = eval (.Name x px) X.env := by rfl)
    (hfew : ((backTo pos (starEach (a :: []) X.env)).all (fun x => !x.1) && (backToKw pos (keywordEach [] X.env)).all (fun x => x.1.isSome) && decide ((a :: []).length + ([] : List Keyword).length + (if ([] : List Keyword).isEmpty then 0 else 1) < 30)) = true := by rfl)
    (hline : (pa.endLine == pos.line) = true := by rfl) (hst : starEach (a :: []) X.env = (false, eval a X.env) :: starEach [] X.env := by rfl)
    (hd : (x == ("__debug__" : Str)) = false := by kernel_rfl) (hcd : (x == ("__classdict__" : Str)) = false := by kernel_rfl) : PS X (.Expr (.Call (.Attribute (.Name x px) "append" pa) [a] [] pos) pos) (tS p (appS i fa)) := s_append hN (.inl hv) ha hs hbase hfew hline hst hd hcd
theorem sappc (i : Nat) {x : Str} (ha : PE X a (tD p fa)) (hN : X.N[i]? = some x := by kernel_rfl) (hv : X.env.scope.names.lookup x = some .cell := by kernel_rfl) (hs : swapsWith (.Call (.Attribute (.Name x px) "append" pa) [a] [] pos) none pos.line X.env = pure false := by rfl)
    (hbase : attributeBase (.Name x px) "append" X.env (eval (.Name x px) X.env) = eval (.Name x px) X.env := by rfl)
    (hfew : ((backTo pos (starEach (a :: []) X.env)).all (fun x => !x.1) && (backToKw pos (keywordEach [] X.env)).all (fun x => x.1.isSome) && decide ((a :: []).length + ([] : List Keyword).length + (if ([] : List Keyword).isEmpty then 0 else 1) < 30)) = true := by rfl)
    (hline : (pa.endLine == pos.line) = true := by rfl) (hst : starEach (a :: []) X.env = (false, eval a X.env) :: starEach [] X.env := by rfl)
    (hd : (x == ("__debug__" : Str)) = false := by kernel_rfl) (hcd : (x == ("__classdict__" : Str)) = false := by kernel_rfl) : PS X (.Expr (.Call (.Attribute (.Name x px) "append" pa) [a] [] pos) pos) (tS p (appS i fa)) := s_append hN (.inr (.inl hv)) ha hs hbase hfew hline hst hd hcd
theorem sext (i : Nat) {x : Str} (ha : PE X a (tD p fa)) (hN : X.N[i]? = some x := by kernel_rfl) (hv : X.env.scope.names.lookup x = some .local := by kernel_rfl) (hs : swapsWith (.Call (.Attribute (.Name x px) "extend" pa) [a] [] pos) none pos.line X.env = pure false := by rfl)
    (hbase : attributeBase (.Name x px) "extend" X.env (eval (.Name x px) X.env) = eval (.Name x px) X.env := by rfl)
    (hfew : ((backTo pos (starEach (a :: []) X.env)).all (fun x => !x.1) && (backToKw pos (keywordEach [] X.env)).all (fun x => x.1.isSome) && decide ((a :: []).length + ([] : List Keyword).length + (if ([] : List Keyword).isEmpty then 0 else 1) < 30)) = true := by rfl)
    (hline : (pa.endLine == pos.line) = true := by rfl) (hst : starEach (a :: []) X.env = (false, eval a X.env) :: starEach [] X.env := by rfl)
    (hd : (x == ("__debug__" : Str)) = false := by kernel_rfl) (hcd : (x == ("__classdict__" : Str)) = false := by kernel_rfl) : PS X (.Expr (.Call (.Attribute (.Name x px) "extend" pa) [a] [] pos) pos) (tS p (extS i fa)) := s_extend hN (.inl hv) ha hs hbase hfew hline hst hd hcd
/-! ### comprehensions -/
theorem fcomp {ifs : List Expr} {scope : Scope} {own : List (Str × Nat)} (hN : X.N.Nodup) (hi : PI X tg iter (tI p fi))
    (hg : ∀ (s : Shared) (H : Hp) (C : Addr) (cl : List (Str × Addr)) (fp : List Addr), PG (X.blk s H scope (compEnvC scope cl C X.env) fp) tg (cG p.blk (own.map (·.2)) t)) (ht : ∀ (s : Shared) (H : Hp) (C : Addr) (cl : List (Str × Addr)) (fp : List Addr), PTs (X.blk s H scope (compEnvC scope cl C X.env) fp) ifs (tB p.blk ba))
    (he : ∀ (s : Shared) (H : Hp) (C : Addr) (cl : List (Str × Addr)) (fp : List Addr), PE (X.blk s H scope (compEnvC scope cl C X.env) fp) elt (tD p.blk fe)) (ok : blkC X.N X.env.scope scope own = true := by kernel_rfl) (hc : X.calm = true := by rfl) (hs : ∀ x, foldedSetIterable iter X.env x = pure x := by intro _; rfl) :
    PE X (.ListComp elt [⟨tg, iter, ifs, 0⟩] scope pos) (tF p (lcM (own.map (·.2)) fi t ba fe)) := f_lc hc hN hi (blkOk_by ok) hg ht he hs
theorem scomp (i : Nat) {y : Str} {py spos : Pos} {ifs : List Expr} {scope : Scope} {own : List (Str × Nat)} (hN : X.N.Nodup) (hi : PI X tg iter (tI p fi))
    (hg : ∀ (s : Shared) (H : Hp) (C : Addr) (cl : List (Str × Addr)) (fp : List Addr), PG (X.blk s H scope (compEnvC scope cl C X.env) fp) tg (cG p.blk (own.map (·.2)) t)) (ht : ∀ (s : Shared) (H : Hp) (C : Addr) (cl : List (Str × Addr)) (fp : List Addr), PTs (X.blk s H scope (compEnvC scope cl C X.env) fp) ifs (tB p.blk ba))
    (he : ∀ (s : Shared) (H : Hp) (C : Addr) (cl : List (Str × Addr)) (fp : List Addr), PE (X.blk s H scope (compEnvC scope cl C X.env) fp) elt (tD p.blk fe)) (hy : X.N[i]? = some y := by kernel_rfl) (hyl : X.env.scope.names.lookup y = some .local := by kernel_rfl) (hk : X.env.scope.kind = .function := by kernel_rfl) (hl : (py.line == pos.line) = true := by kernel_rfl)
    (hna : (scope.names.any fun (n, k) => n == y && (k == .local || k == .cell)) = false := by kernel_rfl) (ok : blkC X.N X.env.scope scope own = true := by kernel_rfl) (hc : X.calm = true := by rfl) (hs : ∀ x, foldedSetIterable iter X.env x = pure x := by intro _; rfl) :
    PS X (.Assign [.Name y py] (.ListComp elt [⟨tg, iter, ifs, 0⟩] scope pos) spos) (tS p (asgS (frzd (lcM (own.map (·.2)) fi t ba fe)) (setv i))) := s_lc hc hN hy hyl (sw_true hk hyl hl hna) hi (blkOk_by ok) hg ht he hs
theorem scompo (i : Nat) {y : Str} {py spos : Pos} {ifs : List Expr} {scope : Scope} {own : List (Str × Nat)} (hN : X.N.Nodup) (hi : PI X tg iter (tI p fi))
    (hg : ∀ (s : Shared) (H : Hp) (C : Addr) (cl : List (Str × Addr)) (fp : List Addr), PG (X.blk s H scope (compEnvC scope cl C X.env) fp) tg (cG p.blk (own.map (·.2)) t)) (ht : ∀ (s : Shared) (H : Hp) (C : Addr) (cl : List (Str × Addr)) (fp : List Addr), PTs (X.blk s H scope (compEnvC scope cl C X.env) fp) ifs (tB p.blk ba))
    (he : ∀ (s : Shared) (H : Hp) (C : Addr) (cl : List (Str × Addr)) (fp : List Addr), PE (X.blk s H scope (compEnvC scope cl C X.env) fp) elt (tD p.blk fe)) (hy : X.N[i]? = some y := by kernel_rfl) (hyl : X.env.scope.names.lookup y = some .local := by kernel_rfl) (hk : X.env.scope.kind = .function := by kernel_rfl) (hl : (py.line == pos.line) = true := by kernel_rfl)
    (hna : (scope.names.any fun (n, k) => n == y && (k == .local || k == .cell)) = false := by kernel_rfl) (ok : blkC X.N X.env.scope scope own = true := by kernel_rfl) (hc : X.calm = true := by rfl) (hs : ∀ x, foldedSetIterable iter X.env x = pure x := by intro _; rfl) :
    PS X (.Assign [.Name y py] (.ListComp elt [⟨tg, iter, ifs, 0⟩] scope pos) spos) (tS p (ownS (lcM (own.map (·.2)) fi t ba fe) i)) := s_lcown hc hN hy hyl (sw_true hk hyl hl hna) hi (blkOk_by ok) hg ht he hs
end
end Mp

set_option Elab.async false
set_option linter.all false
set_option maxRecDepth 100000
set_option maxHeartbeats 4000000
namespace Mp
open PySem PySem.Spec L2
open PyProof.Rows hiding St

theorem hu64_of {A : Around} {k : Nat} (hr : Room k A) : A.units + 64 < cLine := hr.units
theorem hu65_of {A : Around} {k : Nat} (hr : Room k A) : A.units + 65 < cLine := by have := hr.un; omega
/-- a def as a caller finds it -/
structure Cf (K : PySem.W.Frag) (mg : Str → Option Value) (x : Str) (f : Addr) (fd : FuncData) (ps : List Str) : Prop where
  g : mg x = some (.ref f)
  kp : PySem.W.keepIn K (.ref f) = true
  b : Binds K fd ps []
theorem fnD_stk {P : Program} {w : World} {K : Kx} {T : List (Addr × Str)} {mg : Str → Option Value} {base : Heap} {k : Nat} {f : Addr} {fd : FuncData} {ps : List Str} : FnD P w K T mg base k f fd ps (fun _ => stk) :=
  ⟨⟨fun vs H Q E h => h.1, fun A outer s H args us vs Q E _ _ _ _ _ h => by
    obtain ⟨_, _, _, _, _, _, _, _, _, _, q⟩ := h
    exact q.elim⟩, fun _ _ _ => rfl⟩
section
variable {X : Cx} {lt : Nat → LamI} {p : Pm ⟨X.K, lt⟩} {e a b c : Expr} {es : List Expr} {kws : List Keyword} {pos pf kpos : Pos} {fl fk : M (List D)} {k j : Nat} {f : Addr} {fd : FuncData} {ps ks : List Str} {F : List D → M D} {x : Str}
theorem cl (C : Cf X.K X.mg x f fd ps) (FO : FnD X.prog X.w ⟨X.K, lt⟩ p.T X.mg X.base j f fd ps F) (hgd : X.A.guards = some []) (hr : Room k X.A) (tk : Takes X p.W)
    (ha : PA X (e :: es) (tL p fl)) (hj : j ≤ k := by decide) (hg : X.env.kindOf x = some .globalImplicit := by kernel_rfl) (hdb : (x == ("__debug__" : Str)) = false := by kernel_rfl) (he : starEach (e :: es) X.env = (false, eval e X.env) :: starEach es X.env := by rfl) (hpl : (backTo pos (starEach es X.env)).any (·.1) = false := by rfl) :
    PE X (.Call (.Name x pf) (e :: es) [] pos) (tD p (callM F fl)) := d_call (FO.mono hj) hgd hr tk hg C.g C.kp C.b ha hdb he hpl
theorem cl0 (C : Cf X.K X.mg x f fd []) (FO : FnD X.prog X.w ⟨X.K, lt⟩ p.T X.mg X.base j f fd [] F) (hgd : X.A.guards = some []) (hr : Room k X.A) (tk : Takes X p.W)
    (hj : j ≤ k := by decide) (hg : X.env.kindOf x = some .globalImplicit := by kernel_rfl) (hdb : (x == ("__debug__" : Str)) = false := by kernel_rfl) :
    PE X (.Call (.Name x pf) [] [] pos) (tD p (callM F argN)) := d_call0 (FO.mono hj) hgd hr tk hg C.g C.kp C.b rfl hdb
theorem clK {o : List Nat} {nu nk : Nat} (C : Cf X.K X.mg x f fd ps) (FO : FnD X.prog X.w ⟨X.K, lt⟩ p.T X.mg X.base j f fd ps F) (hgd : X.A.guards = some []) (hr : Room k X.A) (tk : Takes X p.W) (hb : KB X.K fd ps ks nu o)
    (ha : PA X (e :: es) (tL p fl)) (hkw : PK X kws (tL p fk)) (hnk : ks.length = nk := by rfl) (hj : j ≤ k := by decide) (hg : X.env.kindOf x = some .globalImplicit := by kernel_rfl) (hall : (backToKw pos (keywordEach kws X.env)).all (·.1.isSome) = true := by rfl) (hks : (backToKw pos (keywordEach kws X.env)).filterMap (·.1) = ks := by rfl)
    (hdb : (x == ("__debug__" : Str)) = false := by kernel_rfl) (he : starEach (e :: es) X.env = (false, eval e X.env) :: starEach es X.env := by rfl)
    (hpl : ((backTo pos (starEach (e :: es) X.env)).any (·.1) || (backToKw pos (keywordEach kws X.env)).any (·.1.isNone)) = false := by rfl) :
    PE X (.Call (.Name x pf) (e :: es) kws pos) (tD p (callK nu nk o F fl fk)) := by subst hnk; exact d_callK (FO.mono hj) hgd hr tk hg C.g C.kp hb ha hkw hall hks hdb he hpl
theorem clK0 {o : List Nat} {nk : Nat} (C : Cf X.K X.mg x f fd ps) (FO : FnD X.prog X.w ⟨X.K, lt⟩ p.T X.mg X.base j f fd ps F) (hgd : X.A.guards = some []) (hr : Room k X.A) (tk : Takes X p.W) (hb : KB X.K fd ps ks 0 o)
    (hkw : PK X kws (tL p fk)) (hnk : ks.length = nk := by rfl) (hj : j ≤ k := by decide) (hg : X.env.kindOf x = some .globalImplicit := by kernel_rfl) (hall : (backToKw pos (keywordEach kws X.env)).all (·.1.isSome) = true := by rfl) (hks : (backToKw pos (keywordEach kws X.env)).filterMap (·.1) = ks := by rfl)
    (hdb : (x == ("__debug__" : Str)) = false := by kernel_rfl)
    (hpl : ((backTo pos (starEach [] X.env)).any (·.1) || (backToKw pos (keywordEach kws X.env)).any (·.1.isNone)) = false := by rfl) :
    PE X (.Call (.Name x pf) [] kws pos) (tD p (callK 0 nk o F argN fk)) := by subst hnk; exact d_callK0 (FO.mono hj) hgd hr tk hg C.g C.kp hb hkw hall hks hdb hpl
end
end Mp

set_option Elab.async false
set_option linter.all false
set_option maxRecDepth 100000
set_option maxHeartbeats 4000000
/-! sets of nested tuples of numbers -/
namespace NS
open PySem PySem.Spec L2
open PyProof.Rows hiding St
open NestedKey (depth depthAll)
mutual
/-- no text in it -/
def nt : NestedKey → Bool
  | .text _ => false
  | .tup ks => ntAll ks
  | .none => true
  | .num _ => true
def ntAll : List NestedKey → Bool
  | [] => true
  | k :: ks => nt k && ntAll ks
end
section
variable {P : Program} {w : World} {A : Around} {E : Value → Shared → Prop} {s : Shared}
/-- a question that a tuple hands on to each of its items, answered no at each -/
theorem ask_items {items : List Value} {A : Around} {body : Value → Option Bool × PUnit → Sem (ForInStep (Option Bool × PUnit))}
    (hbody : ∀ v ∈ items, ∀ (r : Option Bool × PUnit) (Q : ForInStep (Option Bool × PUnit) → Shared → Prop), r.1 = none → (∀ r', r'.1 = none → Q (.yield r') s) → wpAny (model P w) A (body v r) Q E s)
    {Q2 : Option Bool × PUnit → Shared → Prop} {r0 : Option Bool × PUnit} (h0 : r0.1 = none) (h : ∀ r, r.1 = none → Q2 r s) : wpAny (model P w) A (forIn items r0 body) Q2 E s := by
  refine wpAny_forIn_list _ (fun rest r s' => r.1 = none ∧ s' = s ∧ ∀ v ∈ rest, v ∈ items) _ ?_ ?_ _ _ ⟨h0, rfl, fun v hv => hv⟩
  · rintro v rest r s' ⟨hr, rfl, hall⟩
    exact hbody v (hall v List.mem_cons_self) r _ hr fun r' hr' => ⟨hr', rfl, fun u hu => hall u (List.mem_cons_of_mem _ hu)⟩
  · rintro r s' ⟨hr, rfl, _⟩
    exact h r hr
mutual
theorem cls_key : ∀ (k : NestedKey) (v : Value) (n : Nat) (s : Shared) (A : Around) (Q : Bool → Shared → Prop), NestedIs s.heap k v → k.depth ≤ n → Q false s → wpAny (model P w) A (ofAClassStatement n v) Q E s
  | .none, _, n, s, A, Q, x, _, h => by
    cases x
    cases n <;> exact wpAny_pure h
  | .num i, _, n, s, A, Q, x, _, h => by
    cases x <;> cases n <;> exact wpAny_pure h
  | .text y, _, n, s, A, Q, x, _, h => by
    cases x
    cases n <;> exact wpAny_pure h
  | .tup ks, _, n, s, A, Q, x, hn, h => by
    cases x with
    | @tup a o vs m _ ho hc hd hk =>
      cases n with
      | zero => simp [NestedKey.depth] at hn
      | succ n =>
        have hT : s.TypeIs (.ref a) "tuple" := ⟨o, ho, hc⟩
        unfold ofAClassStatement
        refine wpAny_bind (wpAny_typeOf hT ?_)
        dsimp only
        simp only [show (("tuple" : String) == "tuple") = true from by decide, if_true]
        refine wpAny_bind (wpAny_pure ?_)
        simp only [Bool.not_true, Bool.false_eq_true, if_false]
        refine wpAny_bind (wpAny_seqItems ho hd ?_)
        dsimp only
        refine wpAny_bind ?_
        rw [← Array.forIn_toList]
        refine ask_items (fun v hv r Q hr q => ?_) rfl fun r hr => ?_
        · refine wpAny_bind (cls_keys ks vs.toList n s hk (by simp only [NestedKey.depth] at hn; omega) v hv A _ ?_)
          simp only [Bool.false_eq_true, if_false]
          exact wpAny_pure (q _ rfl)
        · obtain ⟨r1, r2⟩ := r
          simp only at hr
          subst hr
          exact wpAny_pure h
theorem cls_keys : ∀ (ks : List NestedKey) (vs : List Value) (n : Nat) (s : Shared), NestedAll s.heap ks vs → NestedKey.depthAll ks ≤ n → ∀ v ∈ vs, ∀ (A : Around) (Q : Bool → Shared → Prop), Q false s → wpAny (model P w) A (ofAClassStatement n v) Q E s
  | [], _, n, s, x, _, v, hv => by cases x; cases hv
  | k :: ks, _, n, s, x, hn, v, hv => by
    cases x with
    | cons x1 x2 =>
      simp only [NestedKey.depthAll] at hn
      rcases List.mem_cons.mp hv with e | hv
      · rw [e]; exact fun A Q q => cls_key k _ n s A Q x1 (by omega) q
      · exact cls_keys ks _ n s x2 (by omega) v hv
end
mutual
theorem byv_key : ∀ (k : NestedKey) (v : Value) (n : Nat) (s : Shared) (A : Around) (Q : Bool → Shared → Prop), NestedIs s.heap k v → k.depth ≤ n → nt k = true → Q true s → wpAny (model P w) A (hashByValue n v) Q E s
  | .none, _, n, s, A, Q, x, _, _, h => by
    cases x
    cases n <;> exact wpAny_pure h
  | .num i, _, n, s, A, Q, x, _, _, h => by
    cases x <;> cases n <;> exact wpAny_pure h
  | .text y, _, n, s, A, Q, x, _, t, h => by simp [nt] at t
  | .tup ks, _, n, s, A, Q, x, hn, t, h => by
    cases x with
    | @tup a o vs m _ ho hc hd hk =>
      cases n with
      | zero => simp [NestedKey.depth] at hn
      | succ n =>
        have hT : s.TypeIs (.ref a) "tuple" := ⟨o, ho, hc⟩
        have t' : ntAll ks = true := by simpa only [nt] using t
        unfold hashByValue
        refine wpAny_bind (wpAny_specialOf hT F.slot_tuple_hash.lookup ?_)
        refine wpAny_bind (wpAny_seqItems ho hd ?_)
        refine wpAny_bind ?_
        show wpAny _ _ (forIn vs _ _) _ _ s
        rw [← Array.forIn_toList]
        refine ask_items (fun v hv r Q hr q => ?_) rfl fun r hr => ?_
        · refine wpAny_bind (byv_keys ks vs.toList n s hk (by simp only [NestedKey.depth] at hn; omega) t' v hv A _ ?_)
          simp only [Bool.not_true, Bool.false_eq_true, if_false]
          exact wpAny_pure (q _ rfl)
        · obtain ⟨r1, r2⟩ := r
          simp only at hr
          subst hr
          exact wpAny_pure h
theorem byv_keys : ∀ (ks : List NestedKey) (vs : List Value) (n : Nat) (s : Shared), NestedAll s.heap ks vs → NestedKey.depthAll ks ≤ n → ntAll ks = true → ∀ v ∈ vs, ∀ (A : Around) (Q : Bool → Shared → Prop), Q true s → wpAny (model P w) A (hashByValue n v) Q E s
  | [], _, n, s, x, _, _, v, hv => by cases x; cases hv
  | k :: ks, _, n, s, x, hn, t, v, hv => by
    cases x with
    | cons x1 x2 =>
      simp only [NestedKey.depthAll] at hn
      have t' : nt k = true ∧ ntAll ks = true := by simpa only [ntAll, Bool.and_eq_true] using t
      rcases List.mem_cons.mp hv with e | hv
      · rw [e]; exact fun A Q q => byv_key k _ n s A Q x1 (by omega) t'.1 q
      · exact byv_keys ks _ n s x2 (by omega) t'.2 v hv
end
end
/-- the tuple at b is the key k -/
def IsN (h : Heap) (k : NestedKey) (b : Addr) : Prop := NestedIs h k (.ref b) ∧ k.depth ≤ 8 ∧ nt k = true
abbrev AK := Addr × NestedKey
def row (w : World) (p : AK) : Int × Value := (p.2.hash w, .ref p.1)
structure NSet (w : World) (h : Heap) (a : Addr) (L : List AK) (es : Array (Int × Value)) (ep : Nat) (t : SetTable) : Prop where
  ob : ∃ o, h.get? a = some o ∧ o.ExactSet ∧ o.data = .set es ep t
  rows : es.toList = L.map (row w)
  tab : TabOk t (L.map fun p => p.2.hash w)
  nd : (L.map (·.2)).Nodup
  key : ∀ p ∈ L, IsN h p.2 p.1
  plain : t.plain = true
  led : w.params.followText "set-order" = true ∨ t.led = true
  room : L.length * 5 < t.mask * 3
  few : L.length < 64
section
variable {P : Program} {w : World} {A : Around} {E : Value → Shared → Prop} {s : Shared}
theorem quietN {k : NestedKey} {b : Addr} {Q : Bool → Shared → Prop} (h : IsN s.heap k b) (q : Q true s) : wpAny (model P w) A (eqIsQuiet 8 (.ref b)) Q E s := quiet_key k _ 8 s h.1 h.2.1 A E Q q
theorem clsN {k : NestedKey} {b : Addr} {Q : Bool → Shared → Prop} (h : IsN s.heap k b) (q : Q false s) : wpAny (model P w) A (ofAClassStatement 8 (.ref b)) Q E s := cls_key k _ 8 s A Q h.1 h.2.1 q
theorem byvN {k : NestedKey} {b : Addr} {Q : Bool → Shared → Prop} (h : IsN s.heap k b) (q : Q true s) : wpAny (model P w) A (hashByValue 8 (.ref b)) Q E s := byv_key k _ 8 s A Q h.1 h.2.1 h.2.2 q
theorem eqN {x y : NestedKey} {b c : Addr} {Q : Bool → Shared → Prop} (hu : A.units + 8 < cLine) (hx : IsN s.heap x b) (hy : IsN s.heap y c) (q : Q (decide (x = y)) s) : wpAny (model P w) A (eqBool (.ref b) (.ref c)) Q E s :=
  (nestedKind P w).eqBool hu ⟨hx.1, hx.2.1⟩ ⟨hy.1, hy.2.1⟩ q
theorem seenN {k : NestedKey} {b : Addr} {Q : Bool → Shared → Prop} (hk : IsN s.heap k b) {ys : List Value} (hy : ∀ y ∈ ys, ∃ k' c, y = Value.ref c ∧ IsN s.heap k' c) (h : Q false s) : wpAny (model P w) A (searchCouldBeSeen (.ref b) ys) Q E s := by
  unfold searchCouldBeSeen
  refine wpAny_bind (ask_items (fun v hv r Q hr q => ?_) rfl fun r hr => ?_)
  · obtain ⟨k', c, rfl, hc⟩ := hy v hv
    dsimp only
    by_cases hv : (b == c || (carriedByValue (.ref b) && carriedByValue (.ref c))) = true
    · exact wp_if_pos hv (wpAny_pure (q _ rfl))
    · refine wp_if_neg hv (wpAny_bind (quietN hk ?_))
      simp only [Bool.not_true, Bool.false_eq_true, if_false]
      refine wpAny_bind (quietN hc ?_)
      simp only [Bool.not_true, Bool.false_eq_true, if_false]
      refine wpAny_bind (clsN hk ?_)
      simp only [Bool.false_eq_true, if_false]
      refine wpAny_bind (clsN hc ?_)
      simp only [Bool.false_eq_true, if_false]
      exact wpAny_pure (q _ rfl)
  · obtain ⟨r1, r2⟩ := r
    simp only at hr
    subst hr
    exact wpAny_pure h
end
end NS

set_option Elab.async false
set_option linter.all false
set_option maxRecDepth 100000
set_option maxHeartbeats 4000000
namespace NS
open PySem PySem.Spec L2
open PyProof.Rows hiding St
/-- the probe's state after c steps for the hash h -/
abbrev pst (m : Nat) (h : Int) (c : Nat) : SetTable.Probe := nth m (runAt m (SetTable.bits h % (m + 1)) (SetTable.bits h)) c
theorem pst_dummy (m : Nat) (h : Int) (c : Nat) : (pst m h c).dummy = none := by
  have key : ∀ (n : Nat) (p : SetTable.Probe), p.dummy = none → (nth m p n).dummy = none := by
    intro n
    induction n with
    | zero => exact fun p e => e
    | succ n ih => exact fun p e => ih (adv m p) (by unfold adv; split <;> exact e)
  exact key c _ rfl
theorem pst_add (m : Nat) (h : Int) (c q : Nat) : nth m (pst m h c) q = pst m h (c + q) := (nth_add m c _ q).symm
section
variable {P : Program} {w : World} {A : Around} {E : Value → Shared → Prop} {s : Shared}
variable {a : Addr} {L : List AK} {es : Array (Int × Value)} {ep : Nat} {t : SetTable}
theorem NSet.size (R : NSet w s.heap a L es ep t) : es.size = L.length := by
  rw [← Array.length_toList, R.rows, List.length_map]
theorem NSet.psz (R : NSet w s.heap a L es ep t) : t.place.toList.length = L.length := by
  have h := R.tab.sz
  rw [List.length_map] at h
  rw [Array.length_toList]
  exact h
theorem fits_of {t : SetTable} {n : Nat} (h1 : t.place.size = n) (h2 : t.dummies = #[]) (h3 : n ≤ t.mask) : t.fits n = true := by
  unfold SetTable.fits SetTable.fill
  rw [h2, Bool.and_eq_true, beq_iff_eq, decide_eq_true_eq]
  exact ⟨h1, by show t.place.size + 0 ≤ t.mask; omega⟩
theorem NSet.fits (R : NSet w s.heap a L es ep t) : t.fits es.size = true := by
  have h := R.psz
  have h2 := R.size
  have h3 := R.room
  rw [Array.length_toList] at h
  exact fits_of (by omega) R.tab.dm (by omega)
theorem NSet.at_ (R : NSet w s.heap a L es ep t) {i : Nat} {p : AK} (h : L[i]? = some p) : es[i]? = some (p.2.hash w, Value.ref p.1) := by
  rw [← Array.getElem?_toList, R.rows, List.getElem?_map, h]
  rfl
theorem NSet.hashAt (R : NSet w s.heap a L es ep t) {i : Nat} {p : AK} (h : L[i]? = some p) : (es[i]?.map (·.1)).getD 0 = p.2.hash w := by
  rw [R.at_ h]
  rfl
/-- the search, from a place on the way behind which k does not stand -/
theorem find_from (R : NSet w s.heap a L es ep t) {x : Addr} {k : NestedKey} (hx : IsN s.heap k x) (hu : A.units + 8 < cLine) {K : Nat} (hKf : K < 10 * SetTable.turns t.mask)
    (hK : way t.mask (k.hash w) K ∉ t.place.toList) (hKb : ∀ c, c < K → way t.mask (k.hash w) c ∈ t.place.toList) {Q : SetFound → Shared → Prop}
    (hin : k ∈ L.map (·.2) → Q (.there none) s) (hout : k ∉ L.map (·.2) → Q (.free (way t.mask (k.hash w) K) false) s) :
    ∀ (f c : Nat) (stand : Option SetTable.Probe), stand.getD (t.probeStart (k.hash w)) = pst t.mask (k.hash w) c → c ≤ K → K < f + c →
      (∀ (c' i : Nat) (p : AK), c' < c → t.place.toList[i]? = some (way t.mask (k.hash w) c') → L[i]? = some p → p.2 ≠ k) →
      wpAny (model P w) A (setSearchFrom a (.ref x) (k.hash w) true f stand) Q E s := by
  obtain ⟨o, ho, hex, hd⟩ := R.ob
  have gw : ¬ t.gaveWay = true := by
    unfold SetTable.gaveWay
    rw [mask_odd R.tab.mok]
    decide
  intro f
  induction f with
  | zero => exact fun c stand _ h1 h2 _ => by omega
  | succ f ih =>
    intro c stand hst hc hf hpast
    rw [setSearchFrom_succ]
    refine wpAny_bind (wpAny_setState_of ho hd R.fits ?_)
    dsimp only
    refine wp_if_neg gw ?_
    try refine wpAny_bind (wpAny_pure ?_)
    rw [hst]
    have ej : ∀ q, (nth t.mask (pst t.mask (k.hash w) c) q).j = way t.mask (k.hash w) (c + q) := fun q => congrArg SetTable.Probe.j (pst_add t.mask (k.hash w) c q)
    have eK : c + (K - c) = K := by omega
    rcases go_spec t R.tab.ris R.tab.dm (fun i => (es[i]?.map (·.1)).getD 0) (k.hash w) (10 * SetTable.turns t.mask) (K - c) _ (pst_dummy t.mask (k.hash w) c) (by omega)
      (fun q hq => by rw [ej]; exact hKb (c + q) (by omega)) (by rw [ej, eK]; exact hK) with ⟨q, i, hq, hi, hh, hno, hpr⟩ | ⟨hno, hpr⟩
    · rw [ej] at hi
      have hil : i < L.length := by
        rw [← R.psz]
        exact (List.getElem?_eq_some_iff.mp hi).1
      obtain ⟨p, hp⟩ : ∃ p, L[i]? = some p := ⟨_, List.getElem?_eq_getElem hil⟩
      have hm : p ∈ L := List.mem_of_getElem? hp
      have hsl : t.slot (way t.mask (k.hash w) (c + q)) = .live i := slot_live R.tab.ris hi
      -- what is asked of the candidate
      have rest : wpAny (model P w) A (searchRest a (.ref x) (k.hash w) true f es t (way t.mask (k.hash w) (c + q)) i (pst t.mask (k.hash w) (c + (q + 1)))) Q E s := by
        unfold searchRest
        rw [R.at_ hp]
        dsimp only
        refine wpAny_bind (wpAny_holding (eqN hu (R.key p hm) hx ?_))
        refine wpAny_bind (wpAny_setState_of ho hd R.fits ?_)
        dsimp only
        by_cases hkk : p.2 = k
        · exact wp_if_pos (by simp [hkk]) (wpAny_pure (hin (List.mem_map.mpr ⟨p, hm, hkk⟩)))
        · refine wp_if_neg (by simp [hkk]) ?_
          try refine wpAny_bind (wpAny_pure ?_)
          rw [sameMem]
          dsimp only
          simp only [if_true, hsl, R.at_ hp]
          refine wpAny_bind (wpAny_isSame_ref_self (wpAny_bind (wpAny_pure ?_)))
          simp only [if_true]
          refine wp_if_neg (by simp [hkk]) ?_
          refine ih (c + (q + 1)) _ rfl (by omega) (by omega) fun c' i' p' h1 h2 h3 h4 => ?_
          rcases Nat.lt_trichotomy c' c with z | z | z
          · exact hpast c' i' p' z h2 h3 h4
          all_goals
            rcases Nat.lt_or_ge c' (c + q) with y | y
            · refine hno (c' - c) i' (by omega) (by rw [ej, show c + (c' - c) = c' by omega]; exact h2) ?_
              show (es[i']?.map (·.1)).getD 0 = _
              rw [R.hashAt h3, h4]
            · have ec : c' = c + q := by omega
              rw [ec] at h2
              have s0 := slot_live R.tab.ris h2
              rw [hsl] at s0
              injection s0 with s0
              rw [← s0, hp] at h3
              exact hkk ((congrArg Prod.snd (Option.some.inj h3)).trans h4)
      have hpr' : t.probe (fun i => (es[i]?.map (·.1)).getD 0) (k.hash w) (pst t.mask (k.hash w) c) = some (.candidate (way t.mask (k.hash w) (c + q)) i (pst t.mask (k.hash w) (c + (q + 1)))) := by
        rw [← ej, ← pst_add]
        exact hpr
      rw [hpr']
      dsimp only
      by_cases hl : t.led = true
      · refine wp_if_neg (by simp [hl]) ?_
        try refine wpAny_bind (wpAny_pure ?_)
        exact rest
      · refine wp_if_pos (by simp [hl]) (wpAny_bind (seenN hx (fun y hy => ?_) ?_))
        · obtain ⟨e, he, ee⟩ := List.mem_map.mp hy
          have he1 : e ∈ es ∧ e.1 = k.hash w := by simpa using he
          have he2 : e ∈ es.toList := by simpa using he1.1
          rw [R.rows] at he2
          obtain ⟨p2, hp2, e2⟩ := List.mem_map.mp he2
          exact ⟨p2.2, p2.1, by rw [← ee, ← e2]; rfl, R.key p2 hp2⟩
        · refine wp_if_neg (by decide) ?_
          try refine wpAny_bind (wpAny_pure ?_)
          exact rest
    · have hpr' : t.probe (fun i => (es[i]?.map (·.1)).getD 0) (k.hash w) (pst t.mask (k.hash w) c) = some (.empty (way t.mask (k.hash w) K) none) := by
        have e2 : way t.mask (k.hash w) K = (nth t.mask (pst t.mask (k.hash w) c) (K - c)).j := by rw [ej, eK]
        rw [e2]
        exact hpr
      rw [hpr']
      dsimp only
      refine wpAny_pure (hout fun hm => ?_)
      -- k would stand on the way before K
      obtain ⟨p, hp, hk⟩ := List.mem_map.mp hm
      obtain ⟨i, hi, e⟩ := List.getElem_of_mem hp
      have hLi : L[i]? = some p := by rw [List.getElem?_eq_getElem hi, e]
      have hj : t.place.toList[i]? = some (t.place.toList[i]'(by rw [R.psz]; exact hi)) := List.getElem?_eq_getElem _
      obtain ⟨c', h1, h2⟩ := R.tab.before hK (i := i) (h := k.hash w) (by rw [List.getElem?_map, hLi, ← hk]; rfl) hj
      rw [← h2] at hj
      rcases Nat.lt_or_ge c' c with z | z
      · exact hpast c' i p z hj hLi hk
      · refine hno (c' - c) i (by omega) (by rw [ej, show c + (c' - c) = c' by omega]; exact hj) ?_
        show (es[i]?.map (·.1)).getD 0 = _
        rw [R.hashAt hLi, hk]
theorem find_at (R : NSet w s.heap a L es ep t) {x : Addr} {k : NestedKey} (hx : IsN s.heap k x) (hu : A.units + 8 < cLine) {Q : SetFound → Shared → Prop} (hin : k ∈ L.map (·.2) → Q (.there none) s)
    (hout : ∀ K, k ∉ L.map (·.2) → way t.mask (k.hash w) K ∉ t.place.toList → (∀ c, c < K → way t.mask (k.hash w) c ∈ t.place.toList) → Q (.free (way t.mask (k.hash w) K) false) s) :
    wpAny (model P w) A (setSearch a (.ref x) (k.hash w) true) Q E s := by
  have hroom := R.room
  obtain ⟨K, h1, h2, h3⟩ := R.tab.first (by rw [List.length_map]; omega) (k.hash w)
  have h4 : 10 * SetTable.turns t.mask ≤ 1420 := by
    unfold SetTable.turns
    rcases R.tab.mok with e | e | e <;> omega
  exact find_from R hx hu h1 h2 h3 hin (fun n => hout K n h2 h3) 100000 0 none rfl (Nat.zero_le _) (by omega) fun c' i p h => absurd h (Nat.not_lt_zero _)
end
end NS

set_option Elab.async false
set_option linter.all false
set_option maxRecDepth 100000
set_option maxHeartbeats 4000000
namespace NS
open PySem PySem.Spec L2
open PyProof.Rows hiding St
theorem get_range {α : Type} : ∀ L : List α, (List.range L.length).filterMap (fun i => L[i]?) = L
  | [] => rfl
  | x :: xs => by
    have e : List.filterMap (fun i => (x :: xs)[i]?) (0 :: (List.range xs.length).map Nat.succ) = x :: ((List.range xs.length).map Nat.succ).filterMap (fun i => (x :: xs)[i]?) := List.filterMap_cons_some rfl
    rw [List.length_cons, List.range_succ_eq_map, e, List.filterMap_map]
    exact congrArg (x :: ·) (get_range xs)
theorem IsN.keep {h h' : Heap} {k : NestedKey} {b : Addr} (x : IsN h k b) (hk : ∀ c o, h.get? c = some o → h'.get? c = some o) : IsN h' k b :=
  ⟨NestedIs.at (fun c o vs n e _ => hk c o e) k _ x.1, x.2⟩
theorem IsN.but {h h' : Heap} {k : NestedKey} {a b : Addr} {o : Obj} {es : Array (Int × Value)} {ep : Nat} {t : SetTable} (x : IsN h k b) (ho : h.get? a = some o) (hd : o.data = .set es ep t) (hs : Heap.SameBut a h h') : IsN h' k b := by
  refine ⟨NestedIs.at (fun c u vs n e hc => ?_) k _ x.1, x.2⟩
  have hne : c ≠ a := fun z => by
    subst z
    rw [ho] at e
    cases e
    rw [hd] at hc
    cases hc
  exact (hs.2 c hne).trans e
/-- what laying anew in some order leaves -/
theorem reorder {w : World} (L : List AK) (es : Array (Int × Value)) (order : Array Nat) (hr : es.toList = L.map (row w)) (hp : order.toList.Perm (List.range L.length)) :
    ∃ L2 : List AK, (order.filterMap (es[·]?)).toList = L2.map (row w) ∧ L2.Perm L ∧ (L2.map fun p => p.2.hash w) = order.toList.map fun i => (es.map (·.1)).getD i 0 := by
  have hat : ∀ i, es[i]? = L[i]?.map (row w) := fun i => by rw [← Array.getElem?_toList, hr, List.getElem?_map]
  refine ⟨order.toList.filterMap fun i => L[i]?, ?_, ?_, ?_⟩
  · rw [Array.toList_filterMap, List.map_filterMap]
    exact congrArg (fun f => List.filterMap f order.toList) (funext hat)
  · have h := hp.filterMap fun i => L[i]?
    rwa [get_range] at h
  · have key : ∀ l : List Nat, (∀ i ∈ l, i < L.length) → ((l.filterMap fun i => L[i]?).map fun p => p.2.hash w) = l.map fun i => (es.map (·.1)).getD i 0 := by
      intro l
      induction l with
      | nil => exact fun _ => rfl
      | cons i l ih =>
        intro hl
        have hi := List.getElem?_eq_getElem (hl i List.mem_cons_self)
        rw [List.filterMap_cons_some hi, List.map_cons, List.map_cons, ih fun j hj => hl j (List.mem_cons_of_mem _ hj)]
        have e : (es.map (·.1)).getD i 0 = ((L[i]'(hl i List.mem_cons_self)).2).hash w := by
          rw [Array.getD_eq_getD_getElem?, Array.getElem?_map, hat i, hi]
          rfl
        rw [e]
    exact key _ fun i hi => List.mem_range.mp (hp.mem_iff.mp hi)
section
variable {P : Program} {w : World} {A : Around} {E : Value → Shared → Prop} {s : Shared}
variable {a : Addr} {L : List AK} {es : Array (Int × Value)} {ep : Nat} {t : SetTable}
/-- the table grown -/
theorem grow_at {o : Obj} (ho : s.heap.get? a = some o) (hex : o.ExactSet) (hd : o.data = .set es ep t) (hrows : es.toList = L.map (row w)) (T : TabOk t (L.map fun p => p.2.hash w)) (hfl : L.length ≤ t.mask)
    (nd : (L.map (·.2)).Nodup) (key : ∀ p ∈ L, IsN s.heap p.2 p.1) (pl : t.plain = true) (ld : w.params.followText "set-order" = true ∨ t.led = true) (few : L.length < 64) {wanted M : Nat}
    (hw : SetTable.sizeAbove wanted - 1 = M) (hM : MaskOk M) (hw2 : SetTable.sizeAbove wanted ≤ 128) (hn : L.length * 5 < M * 3) {Q : Unit → Shared → Prop}
    (hQ : ∀ h' L' es' ep' t', Heap.SameBut a s.heap h' → NSet w h' a L' es' ep' t' → L'.Perm L → Q () { s with heap := h' }) : wpAny (model P w) A (setRelay a wanted) Q E s := by
  have hsl : es.size = L.length := by rw [← Array.length_toList, hrows, List.length_map]
  have hps : t.place.size = L.length := by rw [T.sz, List.length_map]
  obtain ⟨t', order, e, hp, T', em, el, epl, ed⟩ := relaid_ok t (hs := es.map (·.1)) (wanted := wanted) hw hM (by rw [Array.size_map, hsl]; omega)
  rw [Array.size_map, hsl] at hp
  obtain ⟨L2, r1, r2, r3⟩ := reorder L es order hrows hp
  rw [← r3] at T'
  have hs2 : (order.filterMap (es[·]?)).size = L.length := by rw [← Array.length_toList, r1, List.length_map, r2.length_eq]
  generalize horder : order.filterMap (es[·]?) = es2 at r1 hs2
  rw [setRelay_eq]
  refine wpAny_bind (wpAny_setState_of ho hd (by rw [hsl]; exact fits_of hps T.dm hfl) ?_)
  dsimp only
  refine wp_if_neg (by rw [sizeLine_eq]; omega) ?_
  try refine wpAny_bind (wpAny_pure ?_)
  rw [e]
  dsimp only
  rw [horder]
  refine wpAny_bind (wp_if_neg (by rw [hs2, hsl]; simp) ?_)
  try refine wpAny_bind (wpAny_pure ?_)
  refine wpAny_pure ?_
  dsimp only
  refine wpAny_storeSet_of ho hd ?_ (by rw [hs2, sizeLine_eq]; omega)
  have sb : Heap.SameBut a s.heap (s.heap.update a (Obj.putSet es2 t')) := Heap.SameBut.update ..
  exact hQ _ L2 es2 (ep + 1) t' sb ⟨⟨_, store_at ho hd, ⟨hex.1, hex.2.1, hex.2.2⟩, rfl⟩, r1, T', (r2.map (·.2)).nodup_iff.mpr nd, fun p hp => (key p (r2.mem_iff.mp hp)).but ho hd sb, by rw [epl]; exact pl, by rw [el]; exact ld, by rw [r2.length_eq, em]; exact hn, by rw [r2.length_eq]; exact few⟩ r2
/-- adding a key -/
theorem add_key (R : NSet w s.heap a L es ep t) {x : Addr} {k : NestedKey} (hx : IsN s.heap k x) (hu : A.units + 8 < cLine) (hfew : L.length + 1 < 64) {Q : Bool → Shared → Prop}
    (hQ : ∀ b h' L' es' ep' t', Heap.SameBut a s.heap h' → NSet w h' a L' es' ep' t' → (if k ∈ L.map (·.2) then L' = L else L'.Perm ((x, k) :: L)) → Q b { s with heap := h' }) :
    wpAny (model P w) A (setAddHashed a (.ref x) (k.hash w)) Q E s := by
  obtain ⟨o, ho, hex, hd⟩ := R.ob
  have hsl := R.size
  have hroom := R.room
  unfold setAddHashed
  refine wpAny_holding ?_
  rw [show (100000 : Nat) = 99999 + 1 from rfl, setAddHashedIn_succ]
  refine wpAny_bind (wpAny_setState_of ho hd R.fits ?_)
  dsimp only
  refine wp_if_neg (by simp [byScan, Value.scannable]) ?_
  try refine wpAny_bind (wpAny_pure ?_)
  refine wpAny_bind (find_at R hx hu (fun hm => ?_) fun K hm hK hb => ?_)
  · dsimp only
    exact wpAny_pure (hQ false s.heap L es ep t (Heap.SameBut.refl a s.heap) R (by rw [if_pos hm]))
  · dsimp only
    refine wpAny_bind (wpAny_setState_of ho hd R.fits ?_)
    dsimp only
    obtain ⟨q1, q2, q3, q4, q5, q6, _, _, q9⟩ := R.tab.put hK hb
    have hp1 := q6.trans R.plain
    generalize hpt : t.put (way t.mask (k.hash w) K) = pt at q1 q3 q4 q5 q9 hp1 ⊢
    obtain ⟨t1, p⟩ := pt
    dsimp only at q1 q3 q4 q5 q9 hp1 ⊢
    subst q1
    first
      | (refine wpAny_bind ?_; refine wp_if_pos hp1 ?_; refine byvN hx ?_)
      | refine wp_if_pos hp1 (wpAny_bind (byvN hx ?_))
    simp only [if_true]
    generalize hpp : SetTable.below t.place (way t.mask (k.hash w) K) = p at q2 q3 ⊢
    -- the rows with the new one among them
    obtain ⟨L1, hL1⟩ : ∃ L1, L1 = L.take p ++ (x, k) :: L.drop p := ⟨_, rfl⟩
    have pm : L1.Perm ((x, k) :: L) := by rw [hL1]; exact put_perm L p (x, k)
    have hlen : L1.length = L.length + 1 := pm.length_eq
    have hin : (SetTable.insertAt es p (k.hash w, Value.ref x)).toList = L1.map (row w) := by
      rw [SetTable.toList_insertAt, R.rows, hL1, List.map_append, List.map_cons, List.map_take, List.map_drop]
      rfl
    have hT : TabOk t1 (L1.map fun p => p.2.hash w) := by
      rw [hL1, List.map_append, List.map_cons, List.map_take, List.map_drop]
      exact q3
    have nd1 : (L1.map (·.2)).Nodup := (pm.map (·.2)).nodup_iff.mpr (by rw [List.map_cons]; exact List.nodup_cons.mpr ⟨hm, R.nd⟩)
    have hes : (SetTable.insertAt es p (k.hash w, Value.ref x)).size = L1.length := by rw [← Array.length_toList, hin, List.length_map]
    have hc : ∀ {L' : List AK}, L'.Perm L1 → (if k ∈ L.map (·.2) then L' = L else L'.Perm ((x, k) :: L)) := fun z => by rw [if_neg hm]; exact z.trans pm
    generalize SetTable.insertAt es p (k.hash w, Value.ref x) = es1 at hin hes ⊢
    refine wpAny_bind (wpAny_storeSet_of ho hd ?_ (by rw [hes, hlen, sizeLine_eq]; omega))
    have sb : Heap.SameBut a s.heap (s.heap.update a (Obj.putSet es1 t1)) := Heap.SameBut.update ..
    have ho1 := store_at (es' := es1) (t' := t1) ho hd
    generalize s.heap.update a (Obj.putSet es1 t1) = h1 at sb ho1 ⊢
    have key1 : ∀ p ∈ L1, IsN h1 p.2 p.1 := fun p hp => by
      rcases List.mem_cons.mp (pm.mem_iff.mp hp) with e | hp
      · rw [e]; exact hx.but ho hd sb
      · exact (R.key p hp).but ho hd sb
    have ld1 : w.params.followText "set-order" = true ∨ t1.led = true := by rw [q5]; exact R.led
    have hfull : t1.tooFull = decide ((L.length + 1) * 5 ≥ t.mask * 3) := by
      unfold SetTable.tooFull
      rw [q9, q4, List.length_map]
    by_cases hf : (L.length + 1) * 5 ≥ t.mask * 3
    · have hf' : t1.tooFull = true := by rw [hfull]; exact decide_eq_true hf
      first
        | (refine wpAny_bind ?_; refine wp_if_pos (by simp [hf']) ?_)
        | (refine wp_if_pos (by simp [hf']) ?_; refine wpAny_bind ?_)
      rw [hsl]
      have go : ∀ M, SetTable.sizeAbove (SetTable.grown (L.length + 1)) - 1 = M → MaskOk M → SetTable.sizeAbove (SetTable.grown (L.length + 1)) ≤ 128 → (L.length + 1) * 5 < M * 3 →
          wpAny (model P w) A (setRelay a (SetTable.grown (L.length + 1))) (fun _ s' => wpAny (model P w) A (pure true) Q E s') E { s with heap := h1 } := fun M g1 g2 g3 g4 =>
        grow_at (s := { s with heap := h1 }) ho1 ⟨hex.1, hex.2.1, hex.2.2⟩ rfl hin hT (by rw [hlen, q4]; omega) nd1 key1 hp1 ld1 (by rw [hlen]; exact hfew) g1 g2 g3 (by rw [hlen]; exact g4) fun h2 L2 es2 ep2 t2 sb2 R2 pm2 =>
          wpAny_pure (hQ true h2 L2 es2 ep2 t2 (sb.trans sb2) R2 (hc pm2))
      rcases R.tab.mok with e | e | e
      · have e4 : L.length = 4 := by rw [e] at hf hroom; omega
        exact go 31 (by rw [e4, size_20]) (.inr (.inl rfl)) (by rw [e4, size_20]; decide) (by omega)
      · have e4 : L.length = 18 := by rw [e] at hf hroom; omega
        exact go 127 (by rw [e4, size_76]) (.inr (.inr rfl)) (by rw [e4, size_76]; decide) (by omega)
      · rw [e] at hf
        omega
    · have hf' : t1.tooFull = false := by rw [hfull]; exact decide_eq_false hf
      first
        | refine wp_if_neg (by simp [hf']) ?_
        | (refine wpAny_bind ?_; refine wp_if_neg (by simp [hf']) ?_; refine wpAny_pure ?_)
      exact wpAny_pure (hQ true h1 L1 es1 (ep + 1) t1 sb ⟨⟨_, ho1, ⟨hex.1, hex.2.1, hex.2.2⟩, rfl⟩, hin, hT, nd1, key1, hp1, ld1, by rw [hlen, q4]; omega, by rw [hlen]; exact hfew⟩ (hc (List.Perm.refl _)))
end
end NS

set_option Elab.async false
set_option linter.all false
set_option maxRecDepth 100000
set_option maxHeartbeats 4000000
namespace NS
open PySem PySem.Spec L2
open PyProof.Rows hiding St
/-- what the set holds once i items are in -/
structure Has (ks : List AK) (i : Nat) (L : List AK) : Prop where
  from_ : ∀ p ∈ L, p ∈ ks
  mem : ∀ k, k ∈ L.map (·.2) ↔ k ∈ (ks.take i).map (·.2)
  len : L.length ≤ i
theorem Has.zero (ks : List AK) : Has ks 0 [] := ⟨fun p h => (by cases h), fun k => (by simp), Nat.le_refl _⟩
theorem Has.next {ks L L' : List AK} {i : Nat} {p : AK} (g : Has ks i L) (h : ks[i]? = some p) (c : if p.2 ∈ L.map (·.2) then L' = L else L'.Perm (p :: L)) : Has ks (i + 1) L' := by
  have e : (ks.take (i + 1)).map (·.2) = (ks.take i).map (·.2) ++ [p.2] := by
    rw [List.take_succ, h, List.map_append]
    rfl
  by_cases hm : p.2 ∈ L.map (·.2)
  · rw [if_pos hm] at c
    subst c
    refine ⟨g.from_, fun k => ?_, Nat.le_succ_of_le g.len⟩
    rw [e, List.mem_append, ← g.mem k, List.mem_singleton]
    exact ⟨.inl, fun z => z.elim id fun z => z ▸ hm⟩
  · rw [if_neg hm] at c
    refine ⟨fun q hq => ?_, fun k => ?_, by rw [c.length_eq]; exact Nat.succ_le_succ g.len⟩
    · rcases List.mem_cons.mp (c.mem_iff.mp hq) with z | z
      · rw [z]; exact List.mem_of_getElem? h
      · exact g.from_ q z
    · rw [(c.map (·.2)).mem_iff, List.map_cons, List.mem_cons, e, List.mem_append, ← g.mem k, List.mem_singleton]
      exact Or.comm
section
variable {P : Program} {w : World} {A : Around} {E : Value → Shared → Prop} {s : Shared}
theorem NSet.keep {h h' : Heap} {a : Addr} {L : List AK} {es : Array (Int × Value)} {ep : Nat} {t : SetTable} (R : NSet w h a L es ep t) (ha : ∀ o, h.get? a = some o → h'.get? a = some o) (ht : ∀ p ∈ L, IsN h' p.2 p.1) : NSet w h' a L es ep t := by
  obtain ⟨o, ho, r⟩ := R.ob
  exact { R with ob := ⟨o, ha o ho, r⟩, key := ht }
theorem NSet.fresh {h : Heap} {a : Addr} (ho : h.get? a = some { cls := .type "set", dict := none, data := .set #[] 0 (.fresh 0 0 (!w.params.followText "set-order")) }) : NSet w h a [] #[] 0 (.fresh 0 0 (!w.params.followText "set-order")) where
  ob := ⟨_, ho, ⟨rfl, rfl, rfl⟩, rfl⟩
  rows := rfl
  tab := ⟨List.Pairwise.nil, rfl, rfl, .inl rfl, fun x hx => (by cases hx), fun i h j hi => (by simp at hi)⟩
  nd := List.nodup_nil
  key := fun p hp => by cases hp
  plain := rfl
  led := by
    show _ ∨ (!w.params.followText "set-order") = true
    cases w.params.followText "set-order"
    · exact .inr rfl
    · exact .inl rfl
  room := by show 0 * 5 < 7 * 3; decide
  few := by show 0 < 64; decide
/-- the loop that puts the items in -/
theorem put_all {I S : Addr} {fp wr : List Addr} {G : Array GenState → Array GenState → Prop} {n : Nat} {Pv : Nat → Value → Prop} {St : Nat → Shared → Prop} {R : Result → Shared → Prop}
    (W : WalksS P w A.in1 I fp wr G n Pv St) (hSf : S ∉ fp) (ks : List AK) (hn : n = ks.length) (hfew : ks.length < 64) (hval : ∀ i v, Pv i v → ∃ p, ks[i]? = some p ∧ v = .ref p.1)
    (h0 : Heap) (hk : ∀ p ∈ ks, IsN h0 p.2 p.1) (hS0 : h0.get? S = none) (hw0 : ∀ b ∈ wr, h0.get? b = none) (hu : A.in1.units + 8 < cLine) :
    ∀ (m i : Nat) (s : Shared), i + m = n → St i s → (∀ b o, h0.get? b = some o → s.heap.get? b = some o) → (∃ L es ep t, NSet w s.heap S L es ep t ∧ Has ks i L) →
      (∀ s' L es ep t, Moved (S :: wr) G s s' → NSet w s'.heap S L es ep t → Has ks n L → (∀ b o, h0.get? b = some o → s'.heap.get? b = some o) → R (.ok (.ret .none)) s') →
      codeAny (model P w) A (.builtin "set.update.loop" ⟨[.ref S, .ref I], []⟩) R s := by
  have hSw : S ∉ wr := fun z => hSf (W.sub _ z)
  have old : ∀ {s s' : Shared}, Moved wr G s s' → (∀ b o, h0.get? b = some o → s.heap.get? b = some o) → ∀ b o, h0.get? b = some o → s'.heap.get? b = some o := fun hm z b o e => hm.heap b o (fun y => by rw [hw0 b y] at e; cases e) (z b o e)
  intro m
  induction m with
  | zero =>
    intro i s hi hst hold ⟨L, es, ep, t, hS, g⟩ hR
    have ei : i = n := hi
    subst ei
    refine codeAny_builtin F.entry_set_update_loop ?_
    rw [Around.under_plainId F.plain_set_update_loop _]
    refine wpAny_bind (m := pyNext (.ref I)) (W.done s _ _ hst fun s' hm => ?_)
    exact wpAny_pure (hR s' L es ep t (hm.mono fun b hb => List.mem_cons_of_mem _ hb) (hS.keep (fun o e => hm.heap S o hSw e) fun p hp => (hk p (g.from_ p hp)).keep (old hm hold)) g (old hm hold))
  | succ m ih =>
    intro i s hi hst hold ⟨L, es, ep, t, hS, g⟩ hR
    have hlt : i < n := by omega
    refine codeAny_builtin F.entry_set_update_loop ?_
    rw [Around.under_plainId F.plain_set_update_loop _]
    refine wpAny_bind (m := pyNext (.ref I)) (W.item i s _ _ hlt hst fun v s' hP hst' hm => ?_)
    obtain ⟨p, hp, rfl⟩ := hval i v hP
    have hold' := old hm hold
    have hS' : NSet w s'.heap S L es ep t := hS.keep (fun o e => hm.heap S o hSw e) fun q hq => (hk q (g.from_ q hq)).keep hold'
    have hx : IsN s'.heap p.2 p.1 := (hk p (List.mem_of_getElem? hp)).keep hold'
    refine wpAny_bind (m := holding [Value.ref p.1] (setAdd S (.ref p.1))) (wpAny_holding ?_)
    unfold setAdd
    refine wpAny_holding (wpAny_bind ((nestedKind P w).pyHash (k := p.2) hu ⟨hx.1, hx.2.1⟩ ?_))
    refine add_key (s := { s' with toks := s'.toks + p.2.draws }) hS' hx hu (by have := g.len; omega) fun b h' L' es' ep' t' hsb hS2 c => ?_
    have hold2 : ∀ b o, h0.get? b = some o → h'.get? b = some o := fun b o e => (hsb.2 b (fun z => by rw [z, hS0] at e; cases e)).trans (hold' b o e)
    have but : ∀ b o, b ≠ S → s'.heap.get? b = some o → h'.get? b = some o := fun b o hb e => (hsb.2 b hb).trans e
    refine wpAny_pure ⟨plainId_quiet F.plain_set_update_loop _, ih (i + 1) _ (by omega) (W.frame _ s' _ _ hst' (Nat.le_add_right _ _) fun b hb o e => but b o (fun z => hSf (z ▸ hb)) e) hold2 ⟨L', es', ep', t', hS2, g.next hp c⟩ fun s'' L2 es2 ep2 t2 hm2 hS3 g3 hold3 => ?_⟩
    exact hR s'' L2 es2 ep2 t2 (Moved.trans W.gtrans ((hm.mono fun b hb => List.mem_cons_of_mem _ hb).then_heap (Nat.le_add_right _ _) fun b o hb e => but b o (fun z => hb (z ▸ List.mem_cons_self)) e) hm2) hS3 g3 hold3
end
end NS

set_option Elab.async false
set_option linter.all false
set_option maxRecDepth 100000
set_option maxHeartbeats 6400000
namespace NS
open PySem PySem.Spec L2
open PyProof.Rows hiding St
/-- a set just made -/
abbrev set0 (w : World) : Obj := { cls := .type "set", dict := none, data := .set #[] 0 (.fresh 0 0 (!w.params.followText "set-order")) }
section
variable {P : Program} {w : World} {A : Around} {E : Value → Shared → Prop} {s : Shared}
theorem none_past {h : Heap} {b : Addr} (hb : h.objs.size ≤ b) : h.get? b = none := by
  cases q : h.get? b with
  | none => rfl
  | some o => exact absurd (Nat.lt_of_lt_of_le (Heap.lt_size q) hb) (Nat.lt_irrefl _)
theorem val_at {items : Array Value} {ks : List AK} (hit : items.toList = ks.map fun p => Value.ref p.1) (i : Nat) (v : Value) (hv : items[i]? = some v) : ∃ p, ks[i]? = some p ∧ v = .ref p.1 := by
  rw [← Array.getElem?_toList, hit, List.getElem?_map] at hv
  obtain ⟨p, h1, h2⟩ := Option.map_eq_some_iff.mp hv
  exact ⟨p, h1, h2.symm⟩
/-- what is known when the set stands -/
def Made (w : World) (s : Shared) (ks : List AK) (s2 : Shared) : Prop := ∃ h' tk L es ep t, s2 = { s with heap := h', toks := tk } ∧ NSet w h' s.heap.objs.size L es ep t ∧ Has ks ks.length L ∧ ∀ b o, s.heap.get? b = some o → h'.get? b = some o
theorem set_of_list {l : Addr} {items : Array Value} (ks : List AK) {Q : Value → Shared → Prop} (hh : A.handled = none) (hl : s.heap.IsList l items) (hit : items.toList = ks.map fun p => Value.ref p.1)
    (hk : ∀ p ∈ ks, IsN s.heap p.2 p.1) (hfew : ks.length < 64) (hu : A.units + 20 < cLine) (h : ∀ s2, Made w s ks s2 → Q (.ref s.heap.objs.size) s2) : wpAny (model P w) A (call (.type "set") [.ref l]) Q E s := by
  have hisz : items.size = ks.length := by rw [← Array.length_toList, hit, List.length_map]
  obtain ⟨c, tl, hmro⟩ := F.called_set.mro
  have hmade := F.called_set.made
  have hsub := F.called_set.sub
  refine wpAny_call (codeAny_of_tree ?_)
  show wpAny _ _ (callAny (.type "set") _) _ _ _
  refine wpAny_pure ⟨Code.quiet_builtin _ (by decide +kernel), codeAny_builtin F.entry_type_call ?_⟩
  rw [Around.under_plain (weight_type_call_type "set" [.ref l] []) rfl]
  have h1 := F.called_set.notType
  have h2 := F.called_set.canCreate
  have hct := F.typeCall_set_1 (.ref l)
  repeat (any_goals (first | assumption | wp_step))
  refine codeAny_mono (code_set_led1 (.ref l) (E := E) (Q₁ := fun obj s₁ => obj = .ref s.heap.objs.size ∧ s₁ = { s with heap := s.heap.push (set0 w) }) ⟨rfl, rfl⟩) fun r s₁ hr => ?_
  cases r with
  | error e => exact hr
  | ok fl =>
    cases fl with
    | ret obj =>
      obtain ⟨rfl, rfl⟩ := hr
      have hS : (s.heap.push (set0 w)).get? s.heap.objs.size = some (set0 w) := Heap.get?_push_size _ rfl
      have hT : Shared.TypeIs { s with heap := s.heap.push (set0 w) } (.ref s.heap.objs.size) "set" := ⟨_, hS, rfl⟩
      have hli := F.called_set.init.lookup
      have hbi := F.called_set.init.bind (.ref s.heap.objs.size)
      repeat (any_goals (first | assumption | wp_step))
      refine codeAny_mono (codeAny_call_builtin (R := wants (fun r s₂ => r = .none ∧ Made w s ks s₂) E) F.called_set.init.plain F.entry_set_init (check_set_init_1 hT ?_)) fun r₂ s₂ hr₂ => ?_
      · obtain ⟨⟨ocls, odict, odata, oslots⟩, hol, hcl, nl, hdl⟩ := hl
        simp only at hcl hdl
        subst hcl; subst hdl
        have hol' : (s.heap.push (set0 w)).get? l = some { cls := .type "list", dict := odict, data := .seq items nl, slots := oslots } := Heap.get?_push_of_some _ hol
        have hsls := F.sub_list_set
        have hslf := F.sub_list_frozenset
        have hne : (Value.type "list" == Value.type "dict") = false := by decide
        have hl1 : (s.heap.push (set0 w)).IsList l items := ⟨_, hol', rfl, nl, rfl⟩
        unfold Builtin.«set.__init__» noKeywords Builtin.Frozenset.updateFrom
        generalize hPI : pyIter = PI
        wp_walk
        subst hPI
        refine wpAny_pyIter_list hl1 (wpAny_bind (wpAny_runValue ?_))
        have hlS : l < s.heap.objs.size := Heap.lt_size hol
        have hz : (s.heap.push (set0 w)).objs.size = s.heap.objs.size + 1 := Heap.size_push ..
        refine put_all (S := s.heap.objs.size) ((Walks.list (A := A.in1.in1.in1) (by simp [hh]) _ l (by rw [hz]; exact Nat.ne_of_lt (Nat.lt_succ_of_lt hlS)) items).toS) (by
            rw [hz]
            intro m
            rcases List.mem_cons.mp m with m | m
            · exact absurd m (Nat.ne_of_lt (Nat.lt_succ_self _))
            · exact absurd (List.mem_singleton.mp m) (Nat.ne_of_gt hlS)) ks hisz hfew (val_at hit) s.heap hk (none_past (Nat.le_refl _)) (fun b hb => none_past (by rw [List.mem_singleton.mp hb, hz]; exact Nat.le_succ _)) (by simp only [Around.in1_units]; omega) items.size 0 _ (Nat.zero_add _)
          ⟨⟨_, Heap.get?_push_size _ rfl, rfl, rfl⟩, hl1.push _⟩ (fun b o e => Heap.get?_push_of_some _ (Heap.get?_push_of_some _ e)) ⟨[], #[], 0, _, NSet.fresh (Heap.get?_push_of_some _ hS), Has.zero ks⟩ fun s' L es ep t hm hN hg hold => ?_
        obtain ⟨h', g2, d', tk', os'⟩ := s'
        obtain rfl : g2 = s.gens := hm.gens
        obtain rfl : d' = s.drawn := hm.drawn
        obtain rfl : os' = s.os := hm.os
        show wpAny _ _ _ _ _ _
        refine wpAny_pure ?_
        show wpAny _ _ (ret Value.none) _ _ _
        rw [hisz] at hg
        exact wpAny_pure ⟨rfl, h', tk', L, es, ep, t, rfl, hN, hg, hold⟩
      · cases r₂ with
        | error e => exact hr₂
        | ok fl₂ =>
          cases fl₂ with
          | ret r =>
            obtain ⟨rfl, hm⟩ := hr₂
            repeat (any_goals (first | assumption | wp_step))
            exact h _ hm
          | _ => exact hr₂.elim
    | _ => exact hr.elim
theorem set_of_tuple {l : Addr} {items : Array Value} (ks : List AK) {Q : Value → Shared → Prop} (hh : A.handled = none) (hl : s.heap.IsTuple l items) (hit : items.toList = ks.map fun p => Value.ref p.1)
    (hk : ∀ p ∈ ks, IsN s.heap p.2 p.1) (hfew : ks.length < 64) (hu : A.units + 20 < cLine) (h : ∀ s2, Made w s ks s2 → Q (.ref s.heap.objs.size) s2) : wpAny (model P w) A (call (.type "set") [.ref l]) Q E s := by
  have hisz : items.size = ks.length := by rw [← Array.length_toList, hit, List.length_map]
  obtain ⟨c, tl, hmro⟩ := F.called_set.mro
  have hmade := F.called_set.made
  have hsub := F.called_set.sub
  refine wpAny_call (codeAny_of_tree ?_)
  show wpAny _ _ (callAny (.type "set") _) _ _ _
  refine wpAny_pure ⟨Code.quiet_builtin _ (by decide +kernel), codeAny_builtin F.entry_type_call ?_⟩
  rw [Around.under_plain (weight_type_call_type "set" [.ref l] []) rfl]
  have h1 := F.called_set.notType
  have h2 := F.called_set.canCreate
  have hct := F.typeCall_set_1 (.ref l)
  repeat (any_goals (first | assumption | wp_step))
  refine codeAny_mono (code_set_led1 (.ref l) (E := E) (Q₁ := fun obj s₁ => obj = .ref s.heap.objs.size ∧ s₁ = { s with heap := s.heap.push (set0 w) }) ⟨rfl, rfl⟩) fun r s₁ hr => ?_
  cases r with
  | error e => exact hr
  | ok fl =>
    cases fl with
    | ret obj =>
      obtain ⟨rfl, rfl⟩ := hr
      have hS : (s.heap.push (set0 w)).get? s.heap.objs.size = some (set0 w) := Heap.get?_push_size _ rfl
      have hT : Shared.TypeIs { s with heap := s.heap.push (set0 w) } (.ref s.heap.objs.size) "set" := ⟨_, hS, rfl⟩
      have hli := F.called_set.init.lookup
      have hbi := F.called_set.init.bind (.ref s.heap.objs.size)
      repeat (any_goals (first | assumption | wp_step))
      refine codeAny_mono (codeAny_call_builtin (R := wants (fun r s₂ => r = .none ∧ Made w s ks s₂) E) F.called_set.init.plain F.entry_set_init (check_set_init_1 hT ?_)) fun r₂ s₂ hr₂ => ?_
      · obtain ⟨⟨ocls, odict, odata, oslots⟩, hol, hcl, nl, hdl⟩ := hl
        simp only at hcl hdl
        subst hcl; subst hdl
        have hol' : (s.heap.push (set0 w)).get? l = some { cls := .type "tuple", dict := odict, data := .seq items nl, slots := oslots } := Heap.get?_push_of_some _ hol
        have hsls := F.sub_tuple_set
        have hslf := F.sub_tuple_frozenset
        have hne : (Value.type "tuple" == Value.type "dict") = false := by decide
        have hl1 : (s.heap.push (set0 w)).IsTuple l items := ⟨_, hol', rfl, nl, rfl⟩
        unfold Builtin.«set.__init__» noKeywords Builtin.Frozenset.updateFrom
        generalize hPI : pyIter = PI
        wp_walk
        subst hPI
        refine wpAny_pyIter_tuple hl1 (wpAny_bind (wpAny_runValue ?_))
        have hlS : l < s.heap.objs.size := Heap.lt_size hol
        have hz : (s.heap.push (set0 w)).objs.size = s.heap.objs.size + 1 := Heap.size_push ..
        refine put_all (S := s.heap.objs.size) ((Walks.tuple (A := A.in1.in1.in1) (by simp [hh]) _ l (by rw [hz]; exact Nat.ne_of_lt (Nat.lt_succ_of_lt hlS)) items).toS) (by
            rw [hz]
            intro m
            rcases List.mem_cons.mp m with m | m
            · exact absurd m (Nat.ne_of_lt (Nat.lt_succ_self _))
            · exact absurd (List.mem_singleton.mp m) (Nat.ne_of_gt hlS)) ks hisz hfew (val_at hit) s.heap hk (none_past (Nat.le_refl _)) (fun b hb => none_past (by rw [List.mem_singleton.mp hb, hz]; exact Nat.le_succ _)) (by simp only [Around.in1_units]; omega) items.size 0 _ (Nat.zero_add _)
          ⟨⟨_, Heap.get?_push_size _ rfl, rfl, rfl⟩, hl1.push _⟩ (fun b o e => Heap.get?_push_of_some _ (Heap.get?_push_of_some _ e)) ⟨[], #[], 0, _, NSet.fresh (Heap.get?_push_of_some _ hS), Has.zero ks⟩ fun s' L es ep t hm hN hg hold => ?_
        obtain ⟨h', g2, d', tk', os'⟩ := s'
        obtain rfl : g2 = s.gens := hm.gens
        obtain rfl : d' = s.drawn := hm.drawn
        obtain rfl : os' = s.os := hm.os
        show wpAny _ _ _ _ _ _
        refine wpAny_pure ?_
        show wpAny _ _ (ret Value.none) _ _ _
        rw [hisz] at hg
        exact wpAny_pure ⟨rfl, h', tk', L, es, ep, t, rfl, hN, hg, hold⟩
      · cases r₂ with
        | error e => exact hr₂
        | ok fl₂ =>
          cases fl₂ with
          | ret r =>
            obtain ⟨rfl, hm⟩ := hr₂
            repeat (any_goals (first | assumption | wp_step))
            exact h _ hm
          | _ => exact hr₂.elim
    | _ => exact hr.elim
end
end NS

set_option Elab.async false
set_option linter.all false
set_option maxRecDepth 100000
set_option maxHeartbeats 4000000
namespace Mp
open PySem PySem.Spec L2
open PyProof.Rows hiding St

/-! ### len(set(xs)), xs of nested tuples -/
def D.key : D → Option NestedKey
  | .non => some .none
  | .bl b => some (.num (if b = true then 1 else 0))
  | .int i => some (.num i)
  | .tup xs => (keys xs).map .tup
  | _ => none
where keys : List D → Option (List NestedKey)
  | [] => some []
  | d :: ds => match d.key, keys ds with
    | some a, some b => some (a :: b)
    | _, _ => none
def D.isTup : D → Bool
  | .tup _ => true
  | _ => false
def dcount : List NestedKey → Nat
  | [] => 0
  | k :: ks => if k ∈ ks then dcount ks else dcount ks + 1
def setLenL (xs : List D) : Option D := if xs.length < 64 ∧ (xs.all D.isTup) = true then
    match D.key.keys xs with
    | some ks => if ks.all (fun k => decide (k.depth ≤ 8) && NS.nt k) then some (.int (dcount ks : Nat)) else none
    | none => none
  else none
def setLenO : O1 := fun x _ => match x with
  | .tup xs => setLenL xs
  | .lst xs => setLenL xs
  | _ => none
theorem dcount_of : ∀ (ys xs : List NestedKey), xs.Nodup → (∀ k, k ∈ xs ↔ k ∈ ys) → xs.length = dcount ys
  | [], xs, _, h => by
    cases xs with
    | nil => rfl
    | cons x xs => exact absurd ((h x).mp List.mem_cons_self) (by simp)
  | y :: ys, xs, nd, h => by
    unfold dcount
    by_cases c : y ∈ ys
    · rw [if_pos c]
      refine dcount_of ys xs nd fun k => ?_
      rw [h k, List.mem_cons]
      exact ⟨fun z => z.elim (fun e => e ▸ c) id, .inr⟩
    · rw [if_neg c]
      have hy : y ∈ xs := (h y).mpr List.mem_cons_self
      have ih := dcount_of ys (xs.erase y) (nd.erase y) fun k => by
        rw [nd.mem_erase_iff, h k, List.mem_cons]
        exact ⟨fun z => z.2.elim (fun e => absurd e z.1) id, fun z => ⟨fun e => c (e ▸ z), .inr z⟩⟩
      have e := List.length_erase_of_mem hy
      have hp : 0 < xs.length := List.length_pos_of_mem hy
      omega
section
variable {X : Cx} {lt : Nat → LamI} {pins : List (Addr × Obj)} {σ : L2.St} {H F : Hp} {φ : List Addr} {s : Shared}
mutual
theorem key_is (I : Inv X pins σ H s) (sub : ∀ a o, F a = some o → H a = some o) : ∀ (d : D) (v : V) (k : NestedKey) (u : Value), RV ⟨X.K, lt⟩ F φ d v → d.key = some k → RelV v u → NestedIs s.heap k u
  | .non, _, _, _, .non, e, r => by
    cases e
    cases r
    exact .none
  | .bl b, _, _, _, .bl _, e, r => by
    cases e
    cases r
    exact .bool rfl
  | .int i, _, _, _, .int _, e, r => by
    cases e
    obtain ⟨t, rfl⟩ := r
    exact .int i t
  | .tup ds, _, k, u, .tup h1 h2, e, r => by
    unfold D.key at e
    cases z : D.key.keys ds with
    | none => rw [z] at e; cases e
    | some ks =>
      rw [z] at e
      cases e
      obtain ⟨its, rv, ⟨o, ho, hc, n, hd⟩, _⟩ := I.tuple (SqT.up sub h1)
      cases r
      exact .tup ho hc hd (by simpa using keys_are I sub ds _ ks its h2 z rv)
  | .str _, _, _, _, _, e, _ => by cases e
  | .lst _, _, _, _, _, e, _ => by cases e
  | .scr _, _, _, _, _, e, _ => by cases e
  | .dct, _, _, _, _, e, _ => by cases e
  | .ref _, _, _, _, _, e, _ => by cases e
  | .obj _, _, _, _, _, e, _ => by cases e
  | .clo _ _, _, _, _, _, e, _ => by cases e
theorem keys_are (I : Inv X pins σ H s) (sub : ∀ a o, F a = some o → H a = some o) : ∀ (ds : List D) (vs : List V) (ks : List NestedKey) (us : List Value), RVs ⟨X.K, lt⟩ F φ ds vs → D.key.keys ds = some ks → Vals vs us → NestedAll s.heap ks us
  | [], _, _, _, .nil, e, r => by
    cases e
    cases r
    exact .nil
  | d :: ds, _, ks, _, .cons q1 q2, e, r => by
    unfold D.key.keys at e
    cases z : d.key with
    | none => rw [z] at e; cases e
    | some a =>
      cases z2 : D.key.keys ds with
      | none => rw [z, z2] at e; cases e
      | some b =>
        rw [z, z2] at e
        cases e
        cases r with
        | cons r1 r2 => exact .cons (key_is I sub d _ a _ q1 z r1) (keys_are I sub ds _ b _ q2 z2 r2)
end
theorem refs_are (I : Inv X pins σ H s) (sub : ∀ a o, F a = some o → H a = some o) : ∀ (ds : List D) (vs : List V) (ks : List NestedKey) (us : List Value), RVs ⟨X.K, lt⟩ F φ ds vs → ds.all D.isTup = true → D.key.keys ds = some ks → Vals vs us →
    ∃ as : List NS.AK, us = as.map (fun p => Value.ref p.1) ∧ as.map (·.2) = ks ∧ ∀ p ∈ as, NestedIs s.heap p.2 (.ref p.1)
  | [], _, _, _, .nil, _, e, r => by
    cases e
    cases r
    exact ⟨[], rfl, rfl, by simp⟩
  | d :: ds, _, ks, _, .cons q1 q2, t, e, r => by
    unfold D.key.keys at e
    cases z : d.key with
    | none => rw [z] at e; cases e
    | some a =>
      cases z2 : D.key.keys ds with
      | none => rw [z, z2] at e; cases e
      | some b =>
        rw [z, z2] at e
        cases e
        rw [List.all_cons, Bool.and_eq_true] at t
        cases r with
        | cons r1 r2 =>
          obtain ⟨as, e1, e2, e3⟩ := refs_are I sub ds _ b _ q2 t.2 z2 r2
          have hk := key_is I sub d _ a _ q1 z r1
          cases d with
          | tup ds' =>
            cases q1
            cases r1
            refine ⟨(_, a) :: as, by rw [List.map_cons, ← e1], by rw [List.map_cons, e2], fun p hp => ?_⟩
            rcases List.mem_cons.mp hp with y | y
            · rw [y]; exact hk
            · exact e3 p y
          | _ => exact nomatch t.1
end
section
variable {X : Cx} {lt : Nat → LamI} {p : Pm ⟨X.K, lt⟩} {a : Expr} {pos pf p2 q : Pos} {fa : M D}
theorem x_lenset (hm : X.mg "len" = none) (hm2 : X.mg "set" = none) (hu : X.A.units + 65 < cLine) (ha : PE X a (tP p fa)) (hg : X.env.kindOf "len" = some .globalImplicit := by kernel_rfl) (hg2 : X.env.kindOf "set" = some .globalImplicit := by kernel_rfl) (hc : X.calm = true := by rfl)
    (na : starEach [a] X.env = (false, eval a X.env) :: starEach [] X.env := by rfl) : PE X (.Call (.Name "len" pf) [.Call (.Name "set" p2) [a] [] q] [] pos) (tD p (op1 setLenO fa)) := by
  refine ⟨fun pins s σ H Q I h => ?_⟩
  refine Call_ (ld_blt I hg hm PySem.boot_len ?_)
  refine PyProof.Rows.callWith_builtin1 (PyProof.Rows.args_cons ?_ rfl) rfl rfl
  refine Call_ (ld_blt I hg2 hm2 PyProof.Rows.boot_set ?_)
  refine PyProof.Rows.callWith_type1 (PyProof.Rows.args_cons (thn (ha.run pins s σ H _ I (seqP preV h)) fun v s1 ⟨x, H1, I1, r1, g1, s1', d, rs1, rv, q1⟩ => PyProof.Rows.args_nil ?_) na) na rfl
  obtain ⟨d', ho, f⟩ := ap1_fin q1
  have fin : ∀ (l : Addr) (ds : List D) (vs : List V) (its : List Value), v = .ref l → RVs ⟨X.K, lt⟩ g1.F g1.φ ds vs → Vals vs its → setLenL ds = some d' →
      (∀ (ks : List NS.AK) (Q' : Value → Shared → Prop), its = ks.map (fun p => Value.ref p.1) → (∀ p ∈ ks, NS.IsN s1.heap p.2 p.1) → ks.length < 64 → (∀ s2, NS.Made X.w s1 ks s2 → Q' (.ref s1.heap.objs.size) s2) → wpAny (model X.prog X.w) X.A (call (.type "set") [.ref l]) Q' X.xe s1) →
      wpAny (model X.prog X.w) X.A (call (.type "set") [v]) (fun v s => wpAny (model X.prog X.w) X.A (spliced (backTo q (starEach [] X.env))) (fun vs s => wpAny (model X.prog X.w) X.A (call (.builtin "len") (v :: vs)) (EP X pins σ Q) X.xe s) X.xe s) X.xe s1 := by
    intro l ds vs its ev h2 rvs hs hcall
    subst ev
    unfold setLenL at hs
    split at hs
    · rename_i hc
      split at hs
      · rename_i ks hks
        split at hs
        · rename_i hall
          cases hs
          obtain ⟨as, e1, e2, e3⟩ := refs_are I1 rs1.m.sub ds vs ks its h2 hc.2 hks rvs
          have hl : as.length = ds.length := by
            have a1 := congrArg List.length e1
            rw [List.length_map] at a1
            rw [← a1, ← rvs.length, h2.length]
          refine hcall as _ e1 (fun p hp => ?_) (by rw [hl]; exact hc.1) fun s2 hm => ?_
          · have hk := List.all_eq_true.mp hall p.2 (by rw [← e2]; exact List.mem_map.mpr ⟨p, hp, rfl⟩)
            rw [Bool.and_eq_true, decide_eq_true_eq] at hk
            exact ⟨e3 p hp, hk.1, hk.2⟩
          · obtain ⟨h', tk, L, es, ep, t, rfl, R, g, hold⟩ := hm
            have hn : L.length = dcount ks := by
              have := dcount_of ks (L.map (·.2)) R.nd fun k => by rw [g.mem k, List.take_length, e2]
              rwa [List.length_map] at this
            obtain ⟨o, hob, hex, hd⟩ := R.ob
            refine PyProof.Rows.args_nil ?_
            have I2 : Inv X pins σ H1 { s1 with heap := h', toks := tk } := I1.kept hold
            have hsz := NS.NSet.size (s := { s1 with heap := h', toks := tk }) R
            refine call_len_set hob hex hd (NS.NSet.fits (s := { s1 with heap := h', toks := tk }) R) (by have := R.few; omega) ⟨.int (dcount ks : Nat), H1, I2.tok _, ⟨_, by rw [hsz, hn]⟩, f.now rs1 (.int _)⟩
        · cases hs
      · cases hs
    · cases hs
  have hd := I1.ok.hd hc
  unfold setLenO at ho
  split at ho
  · obtain ⟨l, vs, rfl, h1, h2⟩ := rv.tup rs1.m
    cases r1
    obtain ⟨its, rvs, hT, _⟩ := I1.tuple h1
    exact fin l _ vs its rfl h2 rvs ho fun ks Q' e hk hf hq => NS.set_of_tuple ks hd hT (by simpa using e) hk hf (by omega) hq
  · obtain ⟨l, vs, rfl, h1, h2⟩ := rv.lst rs1.m
    cases r1
    obtain ⟨its, rvs, pl, _⟩ := I1.list (SqL.of h1)
    exact fin l _ vs its rfl h2 rvs ho fun ks Q' e hk hf hq => NS.set_of_list ks hd pl.isList (by simpa using e) hk hf (by omega) hq
  · cases ho
end
end Mp

set_option Elab.async false
set_option linter.all false
set_option maxRecDepth 100000
set_option maxHeartbeats 4000000
namespace Mp
open PySem PySem.Spec L2
open PyProof.Rows hiding St

/-! ### what the head has left -/
theorem fun_get {K : PySem.W.Frag} {h : Heap} {mg : Str → Option Value} {x : Str} {st : Stmt} {f : Addr} {oc : Value} {od an : Option Addr} {osl : Array (Option Value)} {kV doc pm cdv ct : Value} (X : K.In h) (G : h.Ns mainGlobals mg)
    (a : PySem.W.nsIn K mainGlobals x = some (some (.ref f))) (l : K.lookup f = some ⟨oc, od, .func (PySem.W.fnOf x x (defArgs st) (defBody st) (defScope st) .none kV doc pm an cdv ct), osl⟩)
    (c : PySem.W.codeIn K cdv x = true) (k : PySem.W.keepIn K (.ref f) = true) : ∃ f fd, Fun K x x st f fd ∧ mg x = some (.ref f) := ⟨f, _, fun_mk l c k, PySem.W.mg_of X G a⟩
theorem ref_inj {a b : Addr} (h : some (Value.ref a) = some (Value.ref b)) : a = b := by cases h; rfl
theorem gint_get {K : PySem.W.Frag} {h : Heap} {mg : Str → Option Value} {x : Str} {i : Int} {t : Tok} (X : K.In h) (G : h.Ns mainGlobals mg) (a : PySem.W.nsIn K mainGlobals x = some (some (.int i t))) : ∃ t, mg x = some (.int i t) := ⟨t, PySem.W.mg_of X G a⟩
theorem gstr_get {K : PySem.W.Frag} {h : Heap} {mg : Str → Option Value} {x : Str} {i : Str} {t : Tok} (X : K.In h) (G : h.Ns mainGlobals mg) (a : PySem.W.nsIn K mainGlobals x = some (some (.str i t))) : ∃ t, mg x = some (.str i t) := ⟨t, PySem.W.mg_of X G a⟩
/-- data that lies in the written part itself -/
inductive Val0 : D → V → Value → Prop
  | non : Val0 .non .non .none
  | bl (b : Bool) : Val0 (.bl b) (.bl b) (.bool b)
  | int (i : Int) (t : Tok) : Val0 (.int i) (.int i) (.int i t)
  | str (x : Str) (t : Tok) : Val0 (.str x) (.str x) (.str x t)
inductive Vals0 : List D → List V → List Value → Prop
  | nil : Vals0 [] [] []
  | cons {d v u ds vs us} : Val0 d v u → Vals0 ds vs us → Vals0 (d :: ds) (v :: vs) (u :: us)
theorem Vals0.vals : ∀ {ds : List D} {vs : List V} {us : List Value}, Vals0 ds vs us → Vals vs us
  | _, _, _, .nil => .nil
  | _, _, _, .cons h t => .cons (by
      cases h with
      | non => rfl
      | bl b => rfl
      | int i t => exact ⟨t, rfl⟩
      | str x t => exact ⟨t, rfl⟩) t.vals
theorem Vals0.rvs {K : Kx} {F : Hp} {φ : List Addr} : ∀ {ds : List D} {vs : List V} {us : List Value}, Vals0 ds vs us → RVs K F φ ds vs
  | _, _, _, .nil => .nil
  | _, _, _, .cons h t => .cons (by
      cases h with
      | non => exact .non
      | bl b => exact .bl b
      | int i t => exact .int i
      | str x t => exact .str x) t.rvs
theorem gtup_get {K : PySem.W.Frag} {h : Heap} {mg : Str → Option Value} {x : Str} {ds : List D} {vs : List V} {a : Addr} {od : Option Addr} {its : Array Value} {n : Nat} {sl : Array (Option Value)} (X : K.In h) (G : h.Ns mainGlobals mg) (e : PySem.W.nsIn K mainGlobals x = some (some (.ref a)))
    (l : K.lookup a = some ⟨.type "tuple", od, .seq its n, sl⟩) (c : Vals0 ds vs its.toList ∧ its.size ≤ 100) : GTup K mg x ds :=
  ⟨a, vs, PySem.W.mg_of X G e, fun F => .inr ⟨_, its, n, l, rfl, rfl, Nat.le_trans c.2 (by decide), c.1.vals⟩, fun lt F φ => c.1.rvs⟩
theorem gtup_get2 {K : PySem.W.Frag} {h : Heap} {mg : Str → Option Value} {x : Str} {i j : Int} {t t' : Tok} {a : Addr} {od : Option Addr} {n : Nat} {sl : Array (Option Value)} (X : K.In h) (G : h.Ns mainGlobals mg) (e : PySem.W.nsIn K mainGlobals x = some (some (.ref a)))
    (l : K.lookup a = some ⟨.type "tuple", od, .seq #[.int i t, .int j t'] n, sl⟩) : GTup K mg x [.int i, .int j] :=
  gtup_get (vs := [.int i, .int j]) X G e l ⟨.cons (.int i t) (.cons (.int j t') .nil), show 2 ≤ 100 by decide⟩
/-- a lambda of no text -/
def lam0 : LamI := ⟨"", { kind := .function, names := [], isGenerator := false, isCoroutine := false }, { posonlyargs := [], args := [], vararg := none, kwonlyargs := [], kw_defaults := [], kwarg := none, defaults := [] }, .Constant .none 0 ⟨0, 0, 0, 0⟩, { kind := .function, names := [], isGenerator := false, isCoroutine := false }⟩
end Mp

set_option linter.all false
set_option maxRecDepth 100000
/-! ratios and small steps, in plain Lean -/
namespace Mp
theorem at0 {α : Type} {a : α} {l : List α} : L2.atI (a :: l) 0 = some a := by simp [L2.atI, L2.ixN]
theorem at1 {α : Type} {a b : α} {l : List α} : L2.atI (a :: b :: l) 1 = some b := by
  have : (1 : Int) < (l.length : Int) + 1 + 1 := by omega
  simp [L2.atI, L2.ixN, this]
theorem at2 {α : Type} {a b c : α} {l : List α} : L2.atI (a :: b :: c :: l) 2 = some c := by
  have : (2 : Int) < (l.length : Int) + 1 + 1 + 1 := by omega
  simp [L2.atI, L2.ixN, this]
theorem atN {α : Type} {l : List α} {i : Nat} {a : α} (h : l[i]? = some a) : L2.atI l (i : Int) = some a := by
  have hi : i < l.length := (List.getElem?_eq_some_iff.mp h).1
  have : ((i : Nat) : Int) < (l.length : Int) := by omega
  have h0 : (0 : Int) ≤ (i : Int) := by omega
  simp only [L2.atI, L2.ixN, h0, this, if_true, Option.bind_some, Int.toNat_natCast, h]
theorem log2_lt_of {m n : Nat} (h : m < 2 ^ n) (h0 : 0 < n) : m.log2 < n := by
  by_cases e : m = 0
  · subst e; simpa using h0
  · exact (Nat.log2_lt e).mpr h
theorem pow_le2 {a b : Nat} (h : a ≤ b) : 2 ^ a ≤ 2 ^ b := Nat.pow_le_pow_right (by decide) h
theorem mulOk_of {i j : Int} {n m : Nat} (h1 : i.natAbs < 2 ^ n) (h2 : j.natAbs < 2 ^ m) (h : n + m ≤ 900000) : mulOk i j = true := by
  have e1 := log2_lt_of (Nat.lt_of_lt_of_le h1 (pow_le2 (Nat.le_succ n))) (Nat.succ_pos n)
  have e2 := log2_lt_of (Nat.lt_of_lt_of_le h2 (pow_le2 (Nat.le_succ m))) (Nat.succ_pos m)
  unfold mulOk
  rw [decide_eq_true_eq]
  omega
theorem divOk_of {j : Int} {n : Nat} (h0 : 0 < j) (h1 : j.natAbs < 2 ^ n) (h : n ≤ 9000) : divOk j = true := by
  have e1 := log2_lt_of (Nat.lt_of_lt_of_le h1 (pow_le2 h)) (by decide)
  unfold divOk
  rw [Bool.and_eq_true, decide_eq_true_eq, decide_eq_true_eq]
  exact ⟨by omega, e1⟩
theorem eq_int (a b : Int) (s : S) : eqO (.int a) (.int b) s = some (.bl (decide (a = b))) := by
  have h : ∀ i : Int, PySem.SeqAt.shaped (.int i) = true := fun i => by rfl
  simp only [eqO, eqD, D.py, h, PySem.PyData.eqv, Bool.and_self, if_true, Option.map_some]
  have e : (a == b) = decide (a = b) := rfl
  rw [e]
theorem ne_int (a b : Int) (s : S) : neO (.int a) (.int b) s = some (.bl (!decide (a = b))) := by
  have h : ∀ i : Int, PySem.SeqAt.shaped (.int i) = true := fun i => by rfl
  simp only [neO, eqD, D.py, h, PySem.PyData.eqv, Bool.and_self, if_true, Option.map_some]
  have e : (a == b) = decide (a = b) := rfl
  rw [e]
/-- a ratio -/
def rd (q : Rat) : D := .tup [.int q.num, .int (q.den : Int)]
def Bd (n : Nat) (q : Rat) : Prop := q.num.natAbs < 2 ^ n ∧ q.den < 2 ^ n
theorem Bd.mono {n m : Nat} {q : Rat} (h : Bd n q) (e : n ≤ m) : Bd m q := ⟨Nat.lt_of_lt_of_le h.1 (pow_le2 e), Nat.lt_of_lt_of_le h.2 (pow_le2 e)⟩
theorem Bd.den {n : Nat} {q : Rat} (h : Bd n q) : ((q.den : Int)).natAbs < 2 ^ n := by simpa using h.2
theorem den_pos (q : Rat) : (0 : Int) < (q.den : Int) := by
  have := q.den_nz
  omega
theorem num_low {n u : Int} (hu : 0 < u) : n.fdiv ((Nat.gcd n.natAbs u.natAbs : Nat) : Int) = (Rat.divInt n u).num := by
  rw [Rat.num_divInt, Int.sign_eq_one_of_pos hu, Int.one_mul, Int.fdiv_eq_ediv_of_nonneg _ (by omega)]
  show n / ((Nat.gcd n.natAbs u.natAbs : Nat) : Int) = n / ((Nat.gcd u.natAbs n.natAbs : Nat) : Int)
  rw [Nat.gcd_comm]
theorem den_low {n u : Int} (hu : 0 < u) : u.fdiv ((Nat.gcd n.natAbs u.natAbs : Nat) : Int) = ((Rat.divInt n u).den : Int) := by
  rw [Rat.den_divInt, if_neg (by omega), Int.fdiv_eq_ediv_of_nonneg _ (by omega)]
  show u / ((Nat.gcd n.natAbs u.natAbs : Nat) : Int) = ((u.natAbs / Nat.gcd u.natAbs n.natAbs : Nat) : Int)
  rw [Nat.gcd_comm, Int.natCast_ediv]
  congr 1
  omega
theorem gcd_pos {n u : Int} (hu : 0 < u) : (0 : Int) < ((Nat.gcd n.natAbs u.natAbs : Nat) : Int) := by
  have : 0 < Nat.gcd n.natAbs u.natAbs := Nat.gcd_pos_of_pos_right _ (by omega)
  omega
theorem gcd_lt {n u : Int} {k : Nat} (hu : 0 < u) (h : u.natAbs < 2 ^ k) : ((Nat.gcd n.natAbs u.natAbs : Nat) : Int).natAbs < 2 ^ k := by
  have : Nat.gcd n.natAbs u.natAbs ≤ u.natAbs := Nat.gcd_le_right _ (by omega)
  omega
theorem low_ok {n u : Int} {k : Nat} (hu : 0 < u) (h : u.natAbs < 2 ^ k) (hk : k ≤ 9000) : divOk ((Nat.gcd n.natAbs u.natAbs : Nat) : Int) = true := divOk_of (gcd_pos hu) (gcd_lt hu h) hk
theorem low_eq {n u : Int} (hu : 0 < u) : D.tup [.int (n.fdiv ((Nat.gcd n.natAbs u.natAbs : Nat) : Int)), .int (u.fdiv ((Nat.gcd n.natAbs u.natAbs : Nat) : Int))] = rd (Rat.divInt n u) := by
  rw [num_low hu, den_low hu]; rfl
/-- lowering makes nothing longer -/
theorem Bd.low {n u : Int} {k : Nat} (hu : 0 < u) (h1 : n.natAbs < 2 ^ k) (h2 : u.natAbs < 2 ^ k) : Bd k (Rat.divInt n u) := by
  constructor
  · rw [Rat.num_divInt, Int.sign_eq_one_of_pos hu, Int.one_mul]
    exact Nat.lt_of_le_of_lt (Int.natAbs_ediv_le_natAbs _ _) h1
  · rw [Rat.den_divInt, if_neg (by omega)]
    exact Nat.lt_of_le_of_lt (Nat.div_le_self _ _) h2
theorem bits_mul {a b : Int} {n m : Nat} (h1 : a.natAbs < 2 ^ n) (h2 : b.natAbs < 2 ^ m) : (a * b).natAbs < 2 ^ (n + m) := by
  rw [Int.natAbs_mul, Nat.pow_add]
  exact Nat.mul_lt_mul'' h1 h2
theorem bits_add {a b : Int} {n : Nat} (h1 : a.natAbs < 2 ^ n) (h2 : b.natAbs < 2 ^ n) : (a + b).natAbs < 2 ^ (n + 1) := by
  have : (a + b).natAbs ≤ a.natAbs + b.natAbs := Int.natAbs_add_le a b
  rw [Nat.pow_succ]
  omega
theorem bits_sub {a b : Int} {n : Nat} (h1 : a.natAbs < 2 ^ n) (h2 : b.natAbs < 2 ^ n) : (a - b).natAbs < 2 ^ (n + 1) := by
  have : (a - b).natAbs ≤ a.natAbs + b.natAbs := Int.natAbs_sub_le a b
  rw [Nat.pow_succ]
  omega
theorem bits_up {a : Int} {n m : Nat} (h : a.natAbs < 2 ^ n) (e : n ≤ m) : a.natAbs < 2 ^ m := Nat.lt_of_lt_of_le h (pow_le2 e)
theorem add_low (x y : Rat) : Rat.divInt (x.num * y.den + y.num * x.den) (x.den * y.den) = x + y := by
  have := Rat.divInt_add_divInt x.num y.num (d₁ := x.den) (d₂ := y.den) (by have := x.den_nz; omega) (by have := y.den_nz; omega)
  rw [Rat.num_divInt_den, Rat.num_divInt_den] at this
  exact this.symm
theorem mul_low (x y : Rat) : Rat.divInt (x.num * y.num) (x.den * y.den) = x * y := by
  have := Rat.divInt_mul_divInt x.num y.num (d₁ := x.den) (d₂ := y.den)
  rw [Rat.num_divInt_den, Rat.num_divInt_den] at this
  exact this.symm
theorem Rat.den_neg' (x : Rat) : (-x).den = x.den := by rfl
theorem Rat.num_neg' (x : Rat) : (-x).num = -x.num := by rfl
theorem sub_low (x y : Rat) : Rat.divInt (x.num * y.den - y.num * x.den) (x.den * y.den) = x - y := by
  have h := add_low x (-y)
  rw [Rat.den_neg', Rat.num_neg', Int.neg_mul, ← Int.sub_eq_add_neg] at h
  rw [h, Rat.sub_eq_add_neg]
theorem dens (x y : Rat) : (0 : Int) < (x.den : Int) * (y.den : Int) := Int.mul_pos (den_pos x) (den_pos y)
theorem Bd.add {n m k : Nat} {x y : Rat} (hx : Bd n x) (hy : Bd m y) (h : n + m + 1 ≤ k) : Bd k (x + y) := by
  rw [← add_low]
  refine Bd.low (dens x y) (bits_up (bits_add (n := n + m) (bits_mul hx.1 hy.den) ?_) h) (bits_up (bits_mul hx.den hy.den) (by omega))
  have := bits_mul hy.1 hx.den
  rwa [Nat.add_comm] at this
theorem Bd.sub {n m k : Nat} {x y : Rat} (hx : Bd n x) (hy : Bd m y) (h : n + m + 1 ≤ k) : Bd k (x - y) := by
  rw [← sub_low]
  refine Bd.low (dens x y) (bits_up (bits_sub (n := n + m) (bits_mul hx.1 hy.den) ?_) h) (bits_up (bits_mul hx.den hy.den) (by omega))
  have := bits_mul hy.1 hx.den
  rwa [Nat.add_comm] at this
theorem Bd.mul {n m k : Nat} {x y : Rat} (hx : Bd n x) (hy : Bd m y) (h : n + m ≤ k) : Bd k (x * y) := by
  rw [← mul_low]
  exact Bd.low (dens x y) (bits_up (bits_mul hx.1 hy.1) h) (bits_up (bits_mul hx.den hy.den) h)
theorem Bd.neg {n : Nat} {x : Rat} (hx : Bd n x) : Bd n (-x) := by
  refine ⟨?_, hx.2⟩
  rw [Rat.num_neg', Int.natAbs_neg]
  exact hx.1
end Mp

set_option linter.all false
set_option maxRecDepth 100000
/-! loops in plain Lean -/
namespace Mp
/-- a comprehension whose turns change nothing but its own slots -/
theorem lcL_pure {vs : List Nat} {t : Tgt} {c : M Bool} {f : M D} {g : D → Option D} {e0 : List Sl} {ms : List (List D)} : ∀ {xs : List D}, (∀ x ∈ xs, ∃ e', lcT t c f x ⟨e0, ms⟩ = .ok (g x) ⟨e', ms⟩ ∧ wipeE e' vs = e0) → lcL vs t c f xs ⟨e0, ms⟩ = .ok (xs.filterMap g) ⟨e0, ms⟩
  | [], _ => rfl
  | x :: xs, h => by
    obtain ⟨e', h1, h2⟩ := h x List.mem_cons_self
    have ih := lcL_pure (xs := xs) fun y hy => h y (List.mem_cons_of_mem _ hy)
    unfold lcL
    rw [h1]
    simp only
    rw [h2, ih]
    cases hg : g x with
    | none => rw [List.filterMap_cons_none hg]; rfl
    | some y => rw [List.filterMap_cons_some hg]; rfl
theorem lcM_pure {vs : List Nat} {src : M (List D)} {t : Tgt} {c : M Bool} {f : M D} (g : D → Option D) {s s1 : S} {xs : List D} (hsrc : src s = .ok xs s1) (hl : xs.length ≤ 100000) (hv : ∀ v ∈ vs, v < s1.env.length)
    (h : ∀ x ∈ xs, ∃ e', lcT t c f x ⟨wipeE s1.env vs, s1.ms⟩ = .ok (g x) ⟨e', s1.ms⟩ ∧ wipeE e' vs = wipeE s1.env vs) : lcM vs src t c f s = .ok (xs.filterMap g) ⟨restE s1.env (wipeE s1.env vs) vs, s1.ms⟩ := by
  unfold lcM bnd
  rw [hsrc]
  simp only
  rw [if_pos ⟨hl, hv⟩, lcL_pure h]
theorem lcL_map {α : Type} (enc : α → D) {vs : List Nat} {t : Tgt} {c : M Bool} {f : M D} (g : α → Option D) {e0 : List Sl} {ms : List (List D)} : ∀ {l : List α}, (∀ x ∈ l, ∃ e', lcT t c f (enc x) ⟨e0, ms⟩ = .ok (g x) ⟨e', ms⟩ ∧ wipeE e' vs = e0) → lcL vs t c f (l.map enc) ⟨e0, ms⟩ = .ok (l.filterMap g) ⟨e0, ms⟩
  | [], _ => rfl
  | x :: xs, h => by
    obtain ⟨e', h1, h2⟩ := h x List.mem_cons_self
    have ih := lcL_map enc g (l := xs) fun y hy => h y (List.mem_cons_of_mem _ hy)
    rw [List.map_cons]
    unfold lcL
    rw [h1]
    simp only
    rw [h2, ih]
    cases hg : g x with
    | none => rw [List.filterMap_cons_none hg]; rfl
    | some y => rw [List.filterMap_cons_some hg]; rfl
theorem lcM_map {α : Type} (enc : α → D) (l : List α) {vs : List Nat} {src : M (List D)} {t : Tgt} {c : M Bool} {f : M D} (g : α → Option D) {s : S} (hsrc : src s = .ok (l.map enc) s) (hl : l.length ≤ 100000) (hv : ∀ v ∈ vs, v < s.env.length)
    (h : ∀ x ∈ l, ∃ e', lcT t c f (enc x) ⟨wipeE s.env vs, s.ms⟩ = .ok (g x) ⟨e', s.ms⟩ ∧ wipeE e' vs = wipeE s.env vs) : lcM vs src t c f s = .ok (l.filterMap g) ⟨restE s.env (wipeE s.env vs) vs, s.ms⟩ := by
  unfold lcM bnd
  rw [hsrc]
  simp only
  rw [if_pos ⟨by rw [List.length_map]; exact hl, hv⟩, lcL_map enc g h]
theorem filterMap_some_map {α β : Type} (f : α → β) (l : List α) : l.filterMap (fun x => some (f x)) = l.map f := by
  induction l with
  | nil => rfl
  | cons x l ih => simp [ih]
theorem forL_step {t : Tgt} {b : M Fl} {x : D} {xs : List D} {s s1 s2 : S} (h1 : t x s = .ok () s1) (h2 : b s1 = .ok .nx s2) : forL t b (x :: xs) s = forL t b xs s2 := by
  show bnd (t x) _ s = _
  unfold bnd
  rw [h1]
  simp only
  rw [h2]
/-- the pairs that enumerate gives -/
theorem enumL_eq (ds : List D) : enumL ds = (List.range ds.length).map fun i => .tup [.int (i : Nat), ds.getD i .non] := rfl
/-- .. with a state that keeps I -/
theorem lcL_inv {vs : List Nat} {t : Tgt} {c : M Bool} {f : M D} {e0 : List Sl} (I : List (List D) → Prop) (P : D → Prop) : ∀ {xs : List D} {ms : List (List D)}, I ms → (∀ x ∈ xs, ∀ ms, I ms → ∃ y e' ms', lcT t c f x ⟨e0, ms⟩ = .ok (some y) ⟨e', ms'⟩ ∧ wipeE e' vs = e0 ∧ I ms' ∧ P y) →
    ∃ ys ms', lcL vs t c f xs ⟨e0, ms⟩ = .ok ys ⟨e0, ms'⟩ ∧ I ms' ∧ ys.length = xs.length ∧ ∀ y ∈ ys, P y
  | [], ms, hi, _ => ⟨[], ms, rfl, hi, rfl, by simp⟩
  | x :: xs, ms, hi, h => by
    obtain ⟨y, e', ms1, h1, h2, h3, h4⟩ := h x List.mem_cons_self ms hi
    obtain ⟨ys, ms2, k1, k2, k3, k4⟩ := lcL_inv I P (xs := xs) h3 fun z hz => h z (List.mem_cons_of_mem _ hz)
    refine ⟨y :: ys, ms2, ?_, k2, by simp [k3], fun z hz => ?_⟩
    · unfold lcL
      rw [h1]
      simp only
      rw [h2, k1]
      rfl
    · rcases List.mem_cons.mp hz with e | e
      · rw [e]; exact h4
      · exact k4 z e
theorem lcM_inv {vs : List Nat} {src : M (List D)} {t : Tgt} {c : M Bool} {f : M D} (I : List (List D) → Prop) (P : D → Prop) {s s1 : S} {xs : List D} (hsrc : src s = .ok xs s1) (hl : xs.length ≤ 100000) (hv : ∀ v ∈ vs, v < s1.env.length) (hi : I s1.ms)
    (h : ∀ x ∈ xs, ∀ ms, I ms → ∃ y e' ms', lcT t c f x ⟨wipeE s1.env vs, ms⟩ = .ok (some y) ⟨e', ms'⟩ ∧ wipeE e' vs = wipeE s1.env vs ∧ I ms' ∧ P y) :
    ∃ ys ms', lcM vs src t c f s = .ok ys ⟨restE s1.env (wipeE s1.env vs) vs, ms'⟩ ∧ I ms' ∧ ys.length = xs.length ∧ ∀ y ∈ ys, P y := by
  obtain ⟨ys, ms', k1, k2, k3, k4⟩ := lcL_inv I P hi h
  refine ⟨ys, ms', ?_, k2, k3, k4⟩
  unfold lcM bnd
  rw [hsrc]
  simp only
  rw [if_pos ⟨hl, hv⟩, k1]
/-- a loop, by an invariant of the state -/
theorem forL_inv {t : Tgt} {b : M Fl} (I : List D → S → Prop) : ∀ {xs : List D} {s : S}, I xs s → (∀ x xs s, I (x :: xs) s → ∃ s1 s2, t x s = .ok () s1 ∧ b s1 = .ok .nx s2 ∧ I xs s2) → ∃ s', forL t b xs s = .ok .nx s' ∧ I [] s'
  | [], s, h, _ => ⟨s, rfl, h⟩
  | x :: xs, s, h, hs => by
    obtain ⟨s1, s2, h1, h2, h3⟩ := hs x xs s h
    obtain ⟨s', k1, k2⟩ := forL_inv I h3 hs
    refine ⟨s', ?_, k2⟩
    unfold forL bnd
    rw [h1]
    simp only
    rw [h2]
    exact k1
/-- .. that may end it with a return -/
theorem forL_ret {t : Tgt} {b : M Fl} (I : List D → S → Prop) (R : D → S → Prop) : ∀ {xs : List D} {s : S}, I xs s → (∀ x xs s, I (x :: xs) s → ∃ s1 s2 fl, t x s = .ok () s1 ∧ b s1 = .ok fl s2 ∧ ((fl = .nx ∧ I xs s2) ∨ (∃ d, fl = .ret d ∧ R d s2))) → ∃ s' fl, forL t b xs s = .ok fl s' ∧ ((fl = .nx ∧ I [] s') ∨ ∃ d, fl = .ret d ∧ R d s')
  | [], s, h, _ => ⟨s, .nx, rfl, .inl ⟨rfl, h⟩⟩
  | x :: xs, s, h, hs => by
    obtain ⟨s1, s2, fl, h1, h2, h3⟩ := hs x xs s h
    rcases h3 with ⟨rfl, h3⟩ | ⟨d, rfl, h3⟩
    · obtain ⟨s', fl, k1, k2⟩ := forL_ret I R h3 hs
      refine ⟨s', fl, ?_, k2⟩
      unfold forL bnd
      rw [h1]
      simp only
      rw [h2]
      exact k1
    · refine ⟨s2, .ret d, ?_, .inr ⟨d, rfl, h3⟩⟩
      unfold forL bnd
      rw [h1]
      simp only
      rw [h2]
      rfl
end Mp

set_option Elab.async false
set_option linter.all false
set_option maxRecDepth 100000
set_option maxHeartbeats 4000000
namespace K61
open PySem PySem.Spec L2 Mp
open PyProof.Rows hiding St

noncomputable section
def topS (i : Nat) : Stmt := PySem.Challenge.pw_roofshadows_k61_whole_masts_and_who_is_n.main.body.getD i (.Pass ⟨0, 0, 0, 0⟩)
abbrev k_BOUND : Int := 10000000000000000000000000000000000000000000000000000000000000000000000000000000000000000000000000000000000000000000000000000000000000000000000000000000000000000000000000000000000000000000000000000000000000000000000000000000000000000000000000000000000000000000000000000000000000000000000000000000000000000000000000000000000000000000000000000000000000000000000000000000000000000000000000000000000000000
abbrev s_is_integer : Stmt := topS 9
theorem sc_is_integer : FnScope ["value"] ["value"] (defScope s_is_integer) := ⟨by kernel_rfl, by kernel_rfl, by kernel_rfl, by decide +kernel, by kernel_rfl, by decide +kernel, by decide +kernel⟩
def m_is_integer : M Fl :=
    (retS (andV (op1 (isiO .int) (peekv 0)) (notV (op1 (isiO .bool) (peekv 0)))))
def f_is_integer : List D → M D := fnM 1 1 m_is_integer
abbrev s_is_within : Stmt := topS 10
theorem sc_is_within : FnScope ["value", "low", "high"] ["value", "low", "high"] (defScope s_is_within) := ⟨by kernel_rfl, by kernel_rfl, by kernel_rfl, by decide +kernel, by kernel_rfl, by decide +kernel, by decide +kernel⟩
def m_is_within : M Fl :=
    (retS (andV (callM f_is_integer (argC (getv 0) argN)) (chain2 leO leO (peekv 1) (peekv 0) (peekv 2))))
def f_is_within : List D → M D := fnM 3 3 m_is_within
abbrev s_is_row : Stmt := topS 11
theorem sc_is_row : FnScope ["value", "many"] ["value", "many"] (defScope s_is_row) := ⟨by kernel_rfl, by kernel_rfl, by kernel_rfl, by decide +kernel, by kernel_rfl, by decide +kernel, by decide +kernel⟩
def m_is_row : M Fl :=
    (retS (andV (op1 (isiO .tuple) (peekv 0)) (op2 eqO (op1 lenO (peekv 0)) (peekv 1))))
def f_is_row : List D → M D := fnM 2 2 m_is_row
abbrev s_fraction : Stmt := topS 15
theorem sc_fraction : FnScope ["number", "under", "shared"] ["number", "under"] (defScope s_fraction) := ⟨by kernel_rfl, by kernel_rfl, by kernel_rfl, by decide +kernel, by kernel_rfl, by decide +kernel, by decide +kernel⟩
def m_fraction : M Fl :=
    (seqS (asgS (ifV (asB (op2 gtO (peekv 1) (ret (.int 0)))) (op2 gcdO (peekv 0) (peekv 1)) (op1 negO (op2 gcdO (peekv 0) (peekv 1)))) (setv 2))
    (retS (bnd (argC (op2 fdivO (peekv 0) (peekv 2)) (argC (op2 fdivO (peekv 1) (peekv 2)) argN)) mkTup)))
def f_fraction : List D → M D := fnM 3 2 m_fraction
abbrev s_plus : Stmt := topS 16
theorem sc_plus : FnScope ["one", "other"] ["one", "other"] (defScope s_plus) := ⟨by kernel_rfl, by kernel_rfl, by kernel_rfl, by decide +kernel, by kernel_rfl, by decide +kernel, by decide +kernel⟩
def m_plus : M Fl :=
    (seqS (ifS (asB (chain2 eqO eqO (op2 subsO (peekv 0) (ret (.int 1))) (op2 subsO (peekv 1) (ret (.int 1))) (ret (.int 1)))) (retS (bnd (argC (op2 catO (op2 subsO (peekv 0) (ret (.int 0))) (op2 subsO (peekv 1) (ret (.int 0)))) (argC (ret (.int 1)) argN)) mkTup)) (ret .nx))
    (retS (callM f_fraction (argC (op2 catO (op2 repO (op2 subsO (peekv 0) (ret (.int 0))) (op2 subsO (peekv 1) (ret (.int 1)))) (op2 repO (op2 subsO (peekv 1) (ret (.int 0))) (op2 subsO (peekv 0) (ret (.int 1))))) (argC (op2 repO (op2 subsO (peekv 0) (ret (.int 1))) (op2 subsO (peekv 1) (ret (.int 1)))) argN)))))
def f_plus : List D → M D := fnM 2 2 m_plus
abbrev s_opposite : Stmt := topS 17
theorem sc_opposite : FnScope ["ratio"] ["ratio"] (defScope s_opposite) := ⟨by kernel_rfl, by kernel_rfl, by kernel_rfl, by decide +kernel, by kernel_rfl, by decide +kernel, by decide +kernel⟩
def m_opposite : M Fl :=
    (retS (bnd (argC (op1 negO (op2 subsO (peekv 0) (ret (.int 0)))) (argC (op2 subsO (peekv 0) (ret (.int 1))) argN)) mkTup))
def f_opposite : List D → M D := fnM 1 1 m_opposite
abbrev s_minus : Stmt := topS 18
theorem sc_minus : FnScope ["one", "other"] ["one", "other"] (defScope s_minus) := ⟨by kernel_rfl, by kernel_rfl, by kernel_rfl, by decide +kernel, by kernel_rfl, by decide +kernel, by decide +kernel⟩
def m_minus : M Fl :=
    (retS (callM f_plus (argC (getv 0) (argC (bnd (argC (op1 negO (op2 subsO (peekv 1) (ret (.int 0)))) (argC (op2 subsO (peekv 1) (ret (.int 1))) argN)) mkTup) argN))))
def f_minus : List D → M D := fnM 2 2 m_minus
abbrev s_product : Stmt := topS 19
theorem sc_product : FnScope ["one", "other"] ["one", "other"] (defScope s_product) := ⟨by kernel_rfl, by kernel_rfl, by kernel_rfl, by decide +kernel, by kernel_rfl, by decide +kernel, by decide +kernel⟩
def m_product : M Fl :=
    (seqS (ifS (asB (chain2 eqO eqO (op2 subsO (peekv 0) (ret (.int 1))) (op2 subsO (peekv 1) (ret (.int 1))) (ret (.int 1)))) (retS (bnd (argC (op2 repO (op2 subsO (peekv 0) (ret (.int 0))) (op2 subsO (peekv 1) (ret (.int 0)))) (argC (ret (.int 1)) argN)) mkTup)) (ret .nx))
    (retS (callM f_fraction (argC (op2 repO (op2 subsO (peekv 0) (ret (.int 0))) (op2 subsO (peekv 1) (ret (.int 0)))) (argC (op2 repO (op2 subsO (peekv 0) (ret (.int 1))) (op2 subsO (peekv 1) (ret (.int 1)))) argN)))))
def f_product : List D → M D := fnM 2 2 m_product
abbrev s_is_less : Stmt := topS 20
theorem sc_is_less : FnScope ["one", "other"] ["one", "other"] (defScope s_is_less) := ⟨by kernel_rfl, by kernel_rfl, by kernel_rfl, by decide +kernel, by kernel_rfl, by decide +kernel, by decide +kernel⟩
def m_is_less : M Fl :=
    (retS (op2 ltO (op2 repO (op2 subsO (peekv 0) (ret (.int 0))) (op2 subsO (peekv 1) (ret (.int 1)))) (op2 repO (op2 subsO (peekv 1) (ret (.int 0))) (op2 subsO (peekv 0) (ret (.int 1))))))
def f_is_less : List D → M D := fnM 2 2 m_is_less
abbrev s_least : Stmt := topS 21
theorem sc_least : FnScope ["ratios", "found", "ratio"] ["ratios"] (defScope s_least) := ⟨by kernel_rfl, by kernel_rfl, by kernel_rfl, by decide +kernel, by kernel_rfl, by decide +kernel, by decide +kernel⟩
def lb1_least : M Fl :=
    (asgS (ifV (testM (callM f_is_less (argC (getv 2) (argC (getv 1) argN)))) (getv 2) (getv 1)) (setv 1))
def l1_least : M Fl :=
    (forS (seqI (getv 0)) (setv 2) lb1_least)
def m_least : M Fl :=
    (seqS (asgS (op2 subsO (peekv 0) (ret (.int 0))) (setv 1))
    (seqS l1_least
    (retS (getv 1))))
def f_least : List D → M D := fnM 3 1 m_least
abbrev s_shown : Stmt := topS 22
theorem sc_shown : FnScope ["ratio"] ["ratio"] (defScope s_shown) := ⟨by kernel_rfl, by kernel_rfl, by kernel_rfl, by decide +kernel, by kernel_rfl, by decide +kernel, by decide +kernel⟩
def m_shown : M Fl :=
    (seqS (ifS (orB (asB (op2 geO (op2 subsO (peekv 0) (ret (.int 1))) (ret (.int k_BOUND)))) (asB (op2 geO (op1 absO (op2 subsO (peekv 0) (ret (.int 0)))) (ret (.int k_BOUND))))) stk (ret .nx))
    (retS (getv 0)))
def f_shown : List D → M D := fnM 1 1 m_shown
abbrev s_is_ratio : Stmt := topS 23
theorem sc_is_ratio : FnScope ["value"] ["value"] (defScope s_is_ratio) := ⟨by kernel_rfl, by kernel_rfl, by kernel_rfl, by decide +kernel, by kernel_rfl, by decide +kernel, by decide +kernel⟩
def m_is_ratio : M Fl :=
    (seqS (ifS (orB (notB (testM (callM f_is_row (argC (getv 0) (argC (ret (.int 2)) argN))))) (orB (notB (testM (callM f_is_integer (argC (op2 subsO (peekv 0) (ret (.int 0))) argN)))) (notB (testM (callM f_is_integer (argC (op2 subsO (peekv 0) (ret (.int 1))) argN)))))) (retS (ret (.bl false))) (ret .nx))
    (seqS (ifS (orB (notB (asB (chain2 leO ltO (ret (.int 1)) (op2 subsO (peekv 0) (ret (.int 1))) (ret (.int k_BOUND))))) (asB (op2 geO (op1 absO (op2 subsO (peekv 0) (ret (.int 0)))) (ret (.int k_BOUND))))) (retS (ret (.bl false))) (ret .nx))
    (retS (op2 eqO (op2 gcdO (op2 subsO (peekv 0) (ret (.int 0))) (op2 subsO (peekv 0) (ret (.int 1)))) (ret (.int 1))))))
def f_is_ratio : List D → M D := fnM 1 1 m_is_ratio
abbrev s_is_place : Stmt := topS 25
theorem sc_is_place : FnScope ["value"] ["value"] (defScope s_is_place) := ⟨by kernel_rfl, by kernel_rfl, by kernel_rfl, by decide +kernel, by kernel_rfl, by decide +kernel, by decide +kernel⟩
def m_is_place : M Fl :=
    (retS (andV (callM f_is_row (argC (getv 0) (argC (ret (.int 2)) argN))) (andV (callM f_is_ratio (argC (op2 subsO (peekv 0) (ret (.int 0))) argN)) (callM f_is_ratio (argC (op2 subsO (peekv 0) (ret (.int 1))) argN)))))
def f_is_place : List D → M D := fnM 1 1 m_is_place
abbrev s_want_place : Stmt := topS 26
theorem sc_want_place : FnScope ["value"] ["value"] (defScope s_want_place) := ⟨by kernel_rfl, by kernel_rfl, by kernel_rfl, by decide +kernel, by kernel_rfl, by decide +kernel, by decide +kernel⟩
def m_want_place : M Fl :=
    (seqS (ifS (notB (testM (callM f_is_place (argC (getv 0) argN)))) stk (ret .nx))
    (retS (getv 0)))
def f_want_place : List D → M D := fnM 1 1 m_want_place
abbrev s_is_mast : Stmt := topS 30
theorem sc_is_mast : FnScope ["value", "part"] ["value"] (defScope s_is_mast) := ⟨by kernel_rfl, by kernel_rfl, by kernel_rfl, by decide +kernel, by kernel_rfl, by decide +kernel, by decide +kernel⟩
def ce1_is_mast : M D :=
    (callM f_is_ratio (argC (getv 1) argN))
def c1_is_mast : M (List D) :=
    (lcM [1] (seqI (getv 0)) (setv 1) yesM ce1_is_mast)
def m_is_mast : M Fl :=
    (retS (andV (callM f_is_row (argC (getv 0) (argC (ret (.int 3)) argN))) (op1 allO (frzd c1_is_mast))))
def f_is_mast : List D → M D := fnM 2 1 m_is_mast
abbrev s_are_masts_of : Stmt := topS 31
theorem sc_are_masts_of : FnScope ["value", "mast"] ["value"] (defScope s_are_masts_of) := ⟨by kernel_rfl, by kernel_rfl, by kernel_rfl, by decide +kernel, by kernel_rfl, by decide +kernel, by decide +kernel⟩
def ce1_are_masts_of : M D :=
    (callM f_is_mast (argC (getv 1) argN))
def c1_are_masts_of : M (List D) :=
    (lcM [1] (seqI (getv 0)) (setv 1) yesM ce1_are_masts_of)
def m_are_masts_of : M Fl :=
    (seqS (ifS (orB (notB (testM (op1 (isiO .tuple) (peekv 0)))) (notB (asB (chain2 leO leO (ret (.int 1)) (op1 lenO (peekv 0)) (ret (.int (60))))))) (retS (ret (.bl false))) (ret .nx))
    (retS (andV (op1 allO (frzd c1_are_masts_of)) (op2 eqO (op1 setLenO (peekv 0)) (op1 lenO (peekv 0))))))
def f_are_masts_of : List D → M D := fnM 2 1 m_are_masts_of
abbrev s_want_masts : Stmt := topS 32
theorem sc_want_masts : FnScope ["value"] ["value"] (defScope s_want_masts) := ⟨by kernel_rfl, by kernel_rfl, by kernel_rfl, by decide +kernel, by kernel_rfl, by decide +kernel, by decide +kernel⟩
def m_want_masts : M Fl :=
    (seqS (ifS (notB (testM (callM f_are_masts_of (argC (getv 0) argN)))) stk (ret .nx))
    (retS (getv 0)))
def f_want_masts : List D → M D := fnM 1 1 m_want_masts
abbrev s_want_mast : Stmt := topS 33
theorem sc_want_mast : FnScope ["masts", "value"] ["masts", "value"] (defScope s_want_mast) := ⟨by kernel_rfl, by kernel_rfl, by kernel_rfl, by decide +kernel, by kernel_rfl, by decide +kernel, by decide +kernel⟩
def m_want_mast : M Fl :=
    (seqS (ifS (notB (testM (callM f_is_within (argC (getv 1) (argC (ret (.int 0)) (argC (op2 subO (op1 lenO (peekv 0)) (ret (.int 1))) argN)))))) stk (ret .nx))
    (retS (getv 1)))
def f_want_mast : List D → M D := fnM 2 2 m_want_mast
abbrev s_square_of : Stmt := topS 34
theorem sc_square_of : FnScope ["x", "y"] ["x", "y"] (defScope s_square_of) := ⟨by kernel_rfl, by kernel_rfl, by kernel_rfl, by decide +kernel, by kernel_rfl, by decide +kernel, by decide +kernel⟩
def m_square_of : M Fl :=
    (retS (callM f_plus (argC (callM f_product (argC (getv 0) (argC (getv 0) argN))) (argC (callM f_product (argC (getv 1) (argC (getv 1) argN))) argN))))
def f_square_of : List D → M D := fnM 2 2 m_square_of
abbrev s_plane_by : Stmt := topS 35
theorem sc_plane_by : FnScope ["mast", "x", "y", "handicap"] ["mast"] (defScope s_plane_by) := ⟨by kernel_rfl, by kernel_rfl, by kernel_rfl, by decide +kernel, by kernel_rfl, by decide +kernel, by decide +kernel⟩
def m_plane_by : M Fl :=
    (seqS (asgS (getv 0) (tgtT 3 (tgtC (setv 1) (tgtC (setv 2) (tgtC (setv 3) tgtN)))))
    (retS (bnd (argC (callM f_product (argC (ret (.tup [(.int (2)), (.int (1))])) (argC (getv 1) argN))) (argC (callM f_product (argC (ret (.tup [(.int (2)), (.int (1))])) (argC (getv 2) argN))) (argC (callM f_opposite (argC (callM f_plus (argC (callM f_square_of (argC (getv 1) (argC (getv 2) argN))) (argC (getv 3) argN))) argN)) argN))) mkTup)))
def f_plane_by : List D → M D := fnM 4 1 m_plane_by
abbrev s_removal_by : Stmt := topS 36
theorem sc_removal_by : FnScope ["mast", "place", "x", "y", "handicap"] ["mast", "place"] (defScope s_removal_by) := ⟨by kernel_rfl, by kernel_rfl, by kernel_rfl, by decide +kernel, by kernel_rfl, by decide +kernel, by decide +kernel⟩
def m_removal_by : M Fl :=
    (seqS (asgS (getv 0) (tgtT 3 (tgtC (setv 2) (tgtC (setv 3) (tgtC (setv 4) tgtN)))))
    (retS (callM f_plus (argC (callM f_square_of (argC (callM f_minus (argC (op2 subsO (peekv 1) (ret (.int 0))) (argC (getv 2) argN))) (argC (callM f_minus (argC (op2 subsO (peekv 1) (ret (.int 1))) (argC (getv 3) argN))) argN))) (argC (getv 4) argN)))))
def f_removal_by : List D → M D := fnM 5 2 m_removal_by
abbrev s_nearest_by : Stmt := topS 37
theorem sc_nearest_by : FnScope ["masts", "place", "some", "best", "mast", "at", "one"] ["masts", "place"] (defScope s_nearest_by) := ⟨by kernel_rfl, by kernel_rfl, by kernel_rfl, by decide +kernel, by kernel_rfl, by decide +kernel, by decide +kernel⟩
def ct1_nearest_by : M Bool :=
    (notB (testM (callM f_is_less (argC (getv 3) (argC (getv 6) argN)))))
def ce1_nearest_by : M D :=
    (getv 5)
def c1_nearest_by : M (List D) :=
    (lcM [5, 6] (overA enumO (argC (getv 2) argN)) (tgtT 2 (tgtC (setv 5) (tgtC (setv 6) tgtN))) ct1_nearest_by ce1_nearest_by)
def ce2_nearest_by : M D :=
    (callM f_removal_by (argC (getv 4) (argC (getv 1) argN)))
def c2_nearest_by : M (List D) :=
    (lcM [4] (seqI (getv 0)) (setv 4) yesM ce2_nearest_by)
def m_nearest_by : M Fl :=
    (seqS (asgS (frzd c2_nearest_by) (setv 2))
    (seqS (asgS (callM f_least (argC (getv 2) argN)) (setv 3))
    (retS (frzd c1_nearest_by))))
def f_nearest_by : List D → M D := fnM 7 2 m_nearest_by
abbrev s_are_masts : Stmt := topS 38
theorem sc_are_masts : FnScope ["value"] ["value"] (defScope s_are_masts) := ⟨by kernel_rfl, by kernel_rfl, by kernel_rfl, by decide +kernel, by kernel_rfl, by decide +kernel, by decide +kernel⟩
def m_are_masts : M Fl :=
    (retS (callM f_are_masts_of (argC (getv 0) argN)))
def f_are_masts : List D → M D := fnM 1 1 m_are_masts
abbrev s_removal : Stmt := topS 39
theorem sc_removal : FnScope ["masts", "mast", "place"] ["masts", "mast", "place"] (defScope s_removal) := ⟨by kernel_rfl, by kernel_rfl, by kernel_rfl, by decide +kernel, by kernel_rfl, by decide +kernel, by decide +kernel⟩
def m_removal : M Fl :=
    (seqS (dropS (callM f_want_masts (argC (getv 0) argN)))
    (seqS (dropS (callM f_want_mast (argC (getv 0) (argC (getv 1) argN))))
    (retS (callM f_shown (argC (callM f_removal_by (argC (op2 subsO (peekv 0) (peekv 1)) (argC (callM f_want_place (argC (getv 2) argN)) argN))) argN)))))
def f_removal : List D → M D := fnM 3 3 m_removal
abbrev s_nearest : Stmt := topS 40
theorem sc_nearest : FnScope ["masts", "place"] ["masts", "place"] (defScope s_nearest) := ⟨by kernel_rfl, by kernel_rfl, by kernel_rfl, by decide +kernel, by kernel_rfl, by decide +kernel, by decide +kernel⟩
def m_nearest : M Fl :=
    (seqS (dropS (callM f_want_masts (argC (getv 0) argN)))
    (retS (callM f_nearest_by (argC (getv 0) (argC (callM f_want_place (argC (getv 1) argN)) argN)))))
def f_nearest : List D → M D := fnM 2 2 m_nearest
abbrev s_mast_plane : Stmt := topS 41
theorem sc_mast_plane : FnScope ["masts", "mast", "part"] ["masts", "mast"] (defScope s_mast_plane) := ⟨by kernel_rfl, by kernel_rfl, by kernel_rfl, by decide +kernel, by kernel_rfl, by decide +kernel, by decide +kernel⟩
def ce1_mast_plane : M D :=
    (callM f_shown (argC (getv 2) argN))
def c1_mast_plane : M (List D) :=
    (lcM [2] (seqI (callM f_plane_by (argC (op2 subsO (peekv 0) (peekv 1)) argN))) (setv 2) yesM ce1_mast_plane)
def m_mast_plane : M Fl :=
    (seqS (dropS (callM f_want_masts (argC (getv 0) argN)))
    (seqS (dropS (callM f_want_mast (argC (getv 0) (argC (getv 1) argN))))
    (retS (op1 tupleO (frzd c1_mast_plane)))))
def f_mast_plane : List D → M D := fnM 3 2 m_mast_plane
abbrev s_law_pot : Stmt := topS 43
theorem sc_law_pot : FnScope ["script", "k", "cell"] ["script", "k"] (defScope s_law_pot) := ⟨by kernel_rfl, by kernel_rfl, by kernel_rfl, by decide +kernel, by kernel_rfl, by decide +kernel, by decide +kernel⟩
def m_law_pot : M Fl :=
    (seqS (asgS (ifV (asB (op2 ltO (peekv 1) (op1 lenO (peekv 0)))) (op1 absO (op2 subsO (peekv 0) (peekv 1))) (op2 catO (op2 repO (ret (.int 1483)) (peekv 1)) (ret (.int 461)))) (setv 2))
    (retS (refd (bnd (argC (op2 maxO (ret (.int 0)) (op2 subO (peekv 2) (op2 powO (ret (.int 10)) (ret (.int 18))))) (argC (op2 catO (op2 modO (op1 intO (op2 catO (op2 catO (op2 repO (op2 modO (op1 intO (peekv 2)) (ret (.int 2147483549))) (ret (.int 40014))) (op2 repO (ret (.int 4507)) (peekv 1))) (ret (.int 1117)))) (ret (.int 2147483563))) (ret (.int 1))) argN)) mkLst))))
def f_law_pot : List D → M D := fnM 3 2 m_law_pot
abbrev s_law_draw : Stmt := topS 44
theorem sc_law_draw : FnScope ["pot", "many", "digit"] ["pot", "many"] (defScope s_law_draw) := ⟨by kernel_rfl, by kernel_rfl, by kernel_rfl, by decide +kernel, by kernel_rfl, by decide +kernel, by decide +kernel⟩
def m_law_draw : M Fl :=
    (seqS (ifS (asB (op2 gtO (op2 subsO (peekv 0) (ret (.int 0))) (ret (.int 0)))) (seqS (asgS (op2 divmodO (op2 subsO (peekv 0) (ret (.int 0))) (peekv 1)) (tgtT 2 (tgtC (tgtS (peekv 0) (ret (.int 0))) (tgtC (setv 2) tgtN))))
    (retS (getv 2))) (ret .nx))
    (seqS (asgS (op2 modO (op1 intO (op2 catO (op2 repO (op2 subsO (peekv 0) (ret (.int 1))) (ret (.int 40692))) (ret (.int 8501)))) (ret (.int 2147483587))) (tgtS (peekv 0) (ret (.int 1))))
    (retS (op2 modO (op1 intO (op2 fdivO (op2 modO (op1 intO (op2 repO (op2 subsO (peekv 0) (ret (.int 1))) (op2 subsO (peekv 0) (ret (.int 1))))) (ret (.int 2147483549))) (ret (.int 17)))) (peekv 1)))))
def f_law_draw : List D → M D := fnM 3 2 m_law_draw
abbrev s_law_pick : Stmt := topS 45
theorem sc_law_pick : FnScope ["pot", "some"] ["pot", "some"] (defScope s_law_pick) := ⟨by kernel_rfl, by kernel_rfl, by kernel_rfl, by decide +kernel, by kernel_rfl, by decide +kernel, by decide +kernel⟩
def m_law_pick : M Fl :=
    (retS (op2 subsO (peekv 1) (callM f_law_draw (argC (getv 0) (argC (op1 lenO (peekv 1)) argN)))))
def f_law_pick : List D → M D := fnM 2 2 m_law_pick
abbrev s_law_low : Stmt := topS 46
theorem sc_law_low : FnScope ["number", "under", "near", "far"] ["number", "under"] (defScope s_law_low) := ⟨by kernel_rfl, by kernel_rfl, by kernel_rfl, by decide +kernel, by kernel_rfl, by decide +kernel, by decide +kernel⟩
def wc1_law_low : M Bool :=
    (asB (op2 gtO (peekv 3) (ret (.int 0))))
def wb1_law_low : M Fl :=
    (par2 (argC (getv 3) (argC (op2 modO (op1 intO (peekv 2)) (peekv 3)) argN)) 2 3)
def w1_law_low : M Fl :=
    (whS wc1_law_low wb1_law_low)
def m_law_low : M Fl :=
    (seqS (par2 (argC (op1 absO (peekv 0)) (argC (getv 1) argN)) 2 3)
    (seqS w1_law_low
    (retS (bnd (argC (op2 fdivO (peekv 0) (peekv 2)) (argC (op2 fdivO (peekv 1) (peekv 2)) argN)) mkTup))))
def f_law_low : List D → M D := fnM 4 2 m_law_low
abbrev s_law_plus : Stmt := topS 47
theorem sc_law_plus : FnScope ["one", "other"] ["one", "other"] (defScope s_law_plus) := ⟨by kernel_rfl, by kernel_rfl, by kernel_rfl, by decide +kernel, by kernel_rfl, by decide +kernel, by decide +kernel⟩
def m_law_plus : M Fl :=
    (retS (callM f_law_low (argC (op2 catO (op2 repO (op2 subsO (peekv 0) (ret (.int 0))) (op2 subsO (peekv 1) (ret (.int 1)))) (op2 repO (op2 subsO (peekv 1) (ret (.int 0))) (op2 subsO (peekv 0) (ret (.int 1))))) (argC (op2 repO (op2 subsO (peekv 0) (ret (.int 1))) (op2 subsO (peekv 1) (ret (.int 1)))) argN))))
def f_law_plus : List D → M D := fnM 2 2 m_law_plus
abbrev s_law_minus : Stmt := topS 48
theorem sc_law_minus : FnScope ["one", "other"] ["one", "other"] (defScope s_law_minus) := ⟨by kernel_rfl, by kernel_rfl, by kernel_rfl, by decide +kernel, by kernel_rfl, by decide +kernel, by decide +kernel⟩
def m_law_minus : M Fl :=
    (retS (callM f_law_low (argC (op2 subO (op2 repO (op2 subsO (peekv 0) (ret (.int 0))) (op2 subsO (peekv 1) (ret (.int 1)))) (op2 repO (op2 subsO (peekv 1) (ret (.int 0))) (op2 subsO (peekv 0) (ret (.int 1))))) (argC (op2 repO (op2 subsO (peekv 0) (ret (.int 1))) (op2 subsO (peekv 1) (ret (.int 1)))) argN))))
def f_law_minus : List D → M D := fnM 2 2 m_law_minus
abbrev s_law_times : Stmt := topS 49
theorem sc_law_times : FnScope ["one", "other"] ["one", "other"] (defScope s_law_times) := ⟨by kernel_rfl, by kernel_rfl, by kernel_rfl, by decide +kernel, by kernel_rfl, by decide +kernel, by decide +kernel⟩
def m_law_times : M Fl :=
    (retS (callM f_law_low (argC (op2 repO (op2 subsO (peekv 0) (ret (.int 0))) (op2 subsO (peekv 1) (ret (.int 0)))) (argC (op2 repO (op2 subsO (peekv 0) (ret (.int 1))) (op2 subsO (peekv 1) (ret (.int 1)))) argN))))
def f_law_times : List D → M D := fnM 2 2 m_law_times
abbrev s_law_less : Stmt := topS 50
theorem sc_law_less : FnScope ["one", "other"] ["one", "other"] (defScope s_law_less) := ⟨by kernel_rfl, by kernel_rfl, by kernel_rfl, by decide +kernel, by kernel_rfl, by decide +kernel, by decide +kernel⟩
def m_law_less : M Fl :=
    (retS (op2 ltO (op2 repO (op2 subsO (peekv 0) (ret (.int 0))) (op2 subsO (peekv 1) (ret (.int 1)))) (op2 repO (op2 subsO (peekv 1) (ret (.int 0))) (op2 subsO (peekv 0) (ret (.int 1))))))
def f_law_less : List D → M D := fnM 2 2 m_law_less
abbrev s_law_is_ratio : Stmt := topS 51
theorem sc_law_is_ratio : FnScope ["value", "one"] ["value"] (defScope s_law_is_ratio) := ⟨by kernel_rfl, by kernel_rfl, by kernel_rfl, by decide +kernel, by kernel_rfl, by decide +kernel, by decide +kernel⟩
def ce1_law_is_ratio : M D :=
    (andV (op1 (isiO .int) (peekv 1)) (notV (op1 (isiO .bool) (peekv 1))))
def c1_law_is_ratio : M (List D) :=
    (lcM [1] (seqI (getv 0)) (setv 1) yesM ce1_law_is_ratio)
def m_law_is_ratio : M Fl :=
    (seqS (ifS (orB (notB (testM (op1 (isiO .tuple) (peekv 0)))) (asB (op2 neO (op1 lenO (peekv 0)) (ret (.int 2))))) (retS (ret (.bl false))) (ret .nx))
    (seqS (ifS (notB (testM (op1 allO (frzd c1_law_is_ratio)))) (retS (ret (.bl false))) (ret .nx))
    (retS (andV (op2 gtO (op2 subsO (peekv 0) (ret (.int 1))) (ret (.int 0))) (op2 eqO (callM f_law_low (argC (op2 subsO (peekv 0) (ret (.int 0))) (argC (op2 subsO (peekv 0) (ret (.int 1))) argN))) (peekv 0))))))
def f_law_is_ratio : List D → M D := fnM 2 1 m_law_is_ratio
abbrev s_law_removal : Stmt := topS 52
theorem sc_law_removal : FnScope ["mast", "place", "x", "y"] ["mast", "place"] (defScope s_law_removal) := ⟨by kernel_rfl, by kernel_rfl, by kernel_rfl, by decide +kernel, by kernel_rfl, by decide +kernel, by decide +kernel⟩
def m_law_removal : M Fl :=
    (seqS (par2 (argC (callM f_law_minus (argC (op2 subsO (peekv 1) (ret (.int 0))) (argC (op2 subsO (peekv 0) (ret (.int 0))) argN))) (argC (callM f_law_minus (argC (op2 subsO (peekv 1) (ret (.int 1))) (argC (op2 subsO (peekv 0) (ret (.int 1))) argN))) argN)) 2 3)
    (retS (callM f_law_plus (argC (callM f_law_plus (argC (callM f_law_times (argC (getv 2) (argC (getv 2) argN))) (argC (callM f_law_times (argC (getv 3) (argC (getv 3) argN))) argN))) (argC (op2 subsO (peekv 0) (ret (.int 2))) argN)))))
def f_law_removal : List D → M D := fnM 4 2 m_law_removal
abbrev s_law_nearest : Stmt := topS 53
theorem sc_law_nearest : FnScope ["masts", "place", "some", "mast", "at", "one", "other"] ["masts", "place"] (defScope s_law_nearest) := ⟨by kernel_rfl, by kernel_rfl, by kernel_rfl, by decide +kernel, by kernel_rfl, by decide +kernel, by decide +kernel⟩
def ce1_law_nearest : M D :=
    (callM f_law_less (argC (getv 6) (argC (getv 5) argN)))
def c1_law_nearest : M (List D) :=
    (lcM [6] (seqI (getv 2)) (setv 6) yesM ce1_law_nearest)
def ct1_law_nearest : M Bool :=
    (notB (testM (op1 anyO (frzd c1_law_nearest))))
def ce2_law_nearest : M D :=
    (getv 4)
def c2_law_nearest : M (List D) :=
    (lcM [4, 5] (overA enumO (argC (getv 2) argN)) (tgtT 2 (tgtC (setv 4) (tgtC (setv 5) tgtN))) ct1_law_nearest ce2_law_nearest)
def ce3_law_nearest : M D :=
    (callM f_law_removal (argC (getv 3) (argC (getv 1) argN)))
def c3_law_nearest : M (List D) :=
    (lcM [3] (seqI (getv 0)) (setv 3) yesM ce3_law_nearest)
def m_law_nearest : M Fl :=
    (seqS (asgS (frzd c3_law_nearest) (setv 2))
    (retS (frzd c2_law_nearest)))
def f_law_nearest : List D → M D := fnM 7 2 m_law_nearest
abbrev s_law_draw_ratio : Stmt := topS 54
theorem sc_law_draw_ratio : FnScope ["pot", "top"] ["pot", "top"] (defScope s_law_draw_ratio) := ⟨by kernel_rfl, by kernel_rfl, by kernel_rfl, by decide +kernel, by kernel_rfl, by decide +kernel, by decide +kernel⟩
def m_law_draw_ratio : M Fl :=
    (retS (callM f_law_low (argC (op2 subO (callM f_law_draw (argC (getv 0) (argC (op2 catO (op2 repO (ret (.int 2)) (peekv 1)) (ret (.int 1))) argN))) (peekv 1)) (argC (callM f_law_pick (argC (getv 0) (argC (frzd (bnd (argC (ret (.int 1)) (argC (ret (.int 1)) (argC (ret (.int 1)) (argC (ret (.int 2)) (argC (ret (.int 3)) argN))))) mkLst)) argN))) argN))))
def f_law_draw_ratio : List D → M D := fnM 2 2 m_law_draw_ratio
abbrev s_law_masts : Stmt := topS 55
theorem sc_law_masts : FnScope ["pot", "most", "top", "found", "turn", "mast"] ["pot", "most", "top"] (defScope s_law_masts) := ⟨by kernel_rfl, by kernel_rfl, by kernel_rfl, by decide +kernel, by kernel_rfl, by decide +kernel, by decide +kernel⟩
def lb1_law_masts : M Fl :=
    (seqS (asgS (bnd (argC (callM f_law_draw_ratio (argC (getv 0) (argC (getv 2) argN))) (argC (callM f_law_draw_ratio (argC (getv 0) (argC (getv 2) argN))) (argC (callM f_law_low (argC (callM f_law_draw (argC (getv 0) (argC (callM f_law_pick (argC (getv 0) (argC (frzd (bnd (argC (ret (.int 1)) (argC (ret (.int 1)) (argC (ret (.int 30)) argN))) mkLst)) argN))) argN))) (argC (ret (.int 1)) argN))) argN))) mkTup) (setv 5))
    (extS 3 (ifV (asB (op2 ninO (peekv 5) (peekv 3))) (frzd (bnd (argC (getv 5) argN) mkLst)) (frzd (bnd argN mkLst)))))
def l1_law_masts : M Fl :=
    (forS (overA rng1O (argC (op2 catO (ret (.int 1)) (callM f_law_draw (argC (getv 0) (argC (getv 1) argN)))) argN)) (setv 4) lb1_law_masts)
def m_law_masts : M Fl :=
    (seqS (ownS (bnd argN mkLst) 3)
    (seqS l1_law_masts
    (retS (op1 tupleO (peekv 3)))))
def f_law_masts : List D → M D := fnM 6 3 m_law_masts
abbrev s_law_bent : Stmt := topS 56
theorem sc_law_bent : FnScope ["pot", "value", "number", "under", "some", "at", "way", "one"] ["pot", "value"] (defScope s_law_bent) := ⟨by kernel_rfl, by kernel_rfl, by kernel_rfl, by decide +kernel, by kernel_rfl, by decide +kernel, by decide +kernel⟩
def ce1_law_bent (rec : List D → M D) : M D :=
    (op1 (isiO .int) (peekv 7))
def c1_law_bent (rec : List D → M D) : M (List D) :=
    (lcM [7] (seqI (getv 1)) (setv 7) yesM (ce1_law_bent rec))
def m_law_bent (rec : List D → M D) : M Fl :=
    (seqS (ifS (andB (testM (op1 (isiO .tuple) (peekv 1))) (andB (asB (op2 eqO (op1 lenO (peekv 1)) (ret (.int 2)))) (andB (testM (op1 allO (frzd (c1_law_bent rec)))) (asB (op2 gtO (callM f_law_draw (argC (getv 0) (argC (ret (.int 4)) argN))) (ret (.int 0))))))) (seqS (asgS (getv 1) (tgtT 2 (tgtC (setv 2) (tgtC (setv 3) tgtN))))
    (seqS (asgS (frzd (bnd (argC (bnd (argC (op2 catO (peekv 2) (ret (.int 1))) (argC (getv 3) argN)) mkTup) (argC (bnd (argC (op2 subO (peekv 2) (ret (.int 1))) (argC (getv 3) argN)) mkTup) (argC (bnd (argC (op2 repO (ret (.int 2)) (peekv 2)) (argC (op2 repO (ret (.int 2)) (peekv 3)) argN)) mkTup) (argC (bnd (argC (getv 2) (argC (ret (.int 0)) argN)) mkTup) (argC (bnd (argC (op2 subO (ret (.int 0)) (peekv 2)) (argC (getv 3) argN)) mkTup) (argC (ret .non) argN)))))) mkLst)) (setv 4))
    (retS (callM f_law_pick (argC (getv 0) (argC (op2 catO (peekv 4) (frzd (bnd (argC (callM f_law_low (argC (op2 catO (op2 repO (ret (.int 2)) (peekv 2)) (ret (.int 1))) (argC (op2 repO (ret (.int 2)) (op2 maxO (ret (.int 1)) (peekv 3))) argN))) (argC (frzd (bnd (argC (getv 2) (argC (getv 3) argN)) mkLst)) (argC (bnd (argC (getv 2) (argC (getv 3) (argC (ret (.int 1)) argN))) mkTup) (argC (bnd (argC (ret (.bl true)) (argC (getv 3) argN)) mkTup) argN)))) mkLst))) argN)))))) (ret .nx))
    (seqS (ifS (andB (testM (op1 (isiO .tuple) (peekv 1))) (andB (asB (op2 gtO (op1 lenO (peekv 1)) (ret (.int 0)))) (asB (op2 gtO (callM f_law_draw (argC (getv 0) (argC (ret (.int 7)) argN))) (ret (.int 0)))))) (seqS (par2 (argC (callM f_law_draw (argC (getv 0) (argC (op1 lenO (peekv 1)) argN))) (argC (callM f_law_draw (argC (getv 0) (argC (ret (.int 9)) argN))) argN)) 5 6)
    (seqS (ifS (asB (op2 eqO (peekv 6) (ret (.int 0)))) (retS (op2 catO (sliceM (peekv 1) partN (partS (peekv 5))) (sliceM (peekv 1) (partS (op2 catO (peekv 5) (ret (.int 1)))) partN))) (ret .nx))
    (seqS (ifS (asB (op2 eqO (peekv 6) (ret (.int 1)))) (retS (op2 catO (sliceM (peekv 1) partN (partS (op2 catO (peekv 5) (ret (.int 1))))) (sliceM (peekv 1) (partS (peekv 5)) partN))) (ret .nx))
    (retS (ifV (asB (op2 eqO (peekv 6) (ret (.int 2)))) (revA (peekv 1)) (op2 catO (op2 catO (sliceM (peekv 1) partN (partS (peekv 5))) (bnd (argC (callM rec (argC (getv 0) (argC (op2 subsO (peekv 1) (peekv 5)) argN))) argN) mkTup)) (sliceM (peekv 1) (partS (op2 catO (peekv 5) (ret (.int 1)))) partN))))))) (ret .nx))
    (seqS (ifS (testM (op1 (isiO .int) (peekv 1))) (retS (callM f_law_pick (argC (getv 0) (argC (frzd (bnd (argC (op2 catO (peekv 1) (ret (.int 1))) (argC (op2 subO (peekv 1) (ret (.int 1))) (argC (ret (.bl true)) (argC (ret .non) (argC (ret (.int 0)) (argC (ret (.int 1)) (argC (op1 negO (ret (.int 1))) argN))))))) mkLst)) argN)))) (ret .nx))
    (retS (callM f_law_pick (argC (getv 0) (argC (frzd (bnd (argC (ret .non) (argC (ret (.int 0)) (argC (ifV (testM (op1 (isiO .tuple) (peekv 1))) (op1 listO (peekv 1)) (frzd (bnd argN mkLst))) (argC (bnd argN mkTup) (argC (ret (.str "x")) (argC (ret .dct) argN)))))) mkLst)) argN)))))))
def f_law_bent : Nat → List D → M D
  | 0 => fun _ => stk
  | j + 1 => fnM 8 2 (m_law_bent (f_law_bent j))
abbrev s_law_are_masts : Stmt := topS 57
theorem sc_law_are_masts : FnScope ["value", "one", "part", "at"] ["value"] (defScope s_law_are_masts) := ⟨by kernel_rfl, by kernel_rfl, by kernel_rfl, by decide +kernel, by kernel_rfl, by decide +kernel, by decide +kernel⟩
def ce1_law_are_masts : M D :=
    (op2 ninO (peekv 1) (sliceM (peekv 0) partN (partS (peekv 3))))
def c1_law_are_masts : M (List D) :=
    (lcM [3, 1] (overA enumO (argC (getv 0) argN)) (tgtT 2 (tgtC (setv 3) (tgtC (setv 1) tgtN))) yesM ce1_law_are_masts)
def ce2_law_are_masts : M D :=
    (callM f_law_is_ratio (argC (getv 2) argN))
def c2_law_are_masts : M (List D) :=
    (lcM [2] (seqI (getv 1)) (setv 2) yesM ce2_law_are_masts)
def lb1_law_are_masts : M Fl :=
    (ifS (orB (notB (testM (op1 (isiO .tuple) (peekv 1)))) (orB (asB (op2 neO (op1 lenO (peekv 1)) (ret (.int 3)))) (notB (testM (op1 allO (frzd c2_law_are_masts)))))) (retS (ret (.bl false))) (ret .nx))
def l1_law_are_masts : M Fl :=
    (forS (seqI (getv 0)) (setv 1) lb1_law_are_masts)
def m_law_are_masts : M Fl :=
    (seqS (ifS (orB (notB (testM (op1 (isiO .tuple) (peekv 0)))) (notB (asB (chain2 leO leO (ret (.int 1)) (op1 lenO (peekv 0)) (ret (.int 60)))))) (retS (ret (.bl false))) (ret .nx))
    (seqS l1_law_are_masts
    (retS (op1 allO (frzd c1_law_are_masts)))))
def f_law_are_masts : List D → M D := fnM 4 1 m_law_are_masts
abbrev s_law_place_right : Stmt := topS 58
theorem sc_law_place_right : FnScope ["masts", "place", "due", "at", "mast", "one", "plane", "own", "height"] ["masts", "place"] (defScope s_law_place_right) := ⟨by kernel_rfl, by kernel_rfl, by kernel_rfl, by decide +kernel, by kernel_rfl, by decide +kernel, by decide +kernel⟩
def lb1_law_place_right : M Fl :=
    (seqS (par2 (argC (callM f_law_removal (argC (getv 4) (argC (getv 1) argN))) (argC (callM f_mast_plane (argC (getv 0) (argC (getv 3) argN))) argN)) 5 6)
    (seqS (ifS (asB (op2 neO (op1 reprO (frzd (bnd (argC (callM f_removal (argC (getv 0) (argC (getv 3) (argC (getv 1) argN)))) (argC (callK 0 3 [2, 1, 0] f_removal argN (argC (getv 1) (argC (getv 3) (argC (getv 0) argN)))) argN)) mkLst))) (op1 reprO (frzd (bnd (argC (getv 5) (argC (getv 5) argN)) mkLst))))) (retS (ret (.bl false))) (ret .nx))
    (seqS (asgS (callM f_law_plus (argC (callM f_law_plus (argC (callM f_law_times (argC (op2 subsO (peekv 4) (ret (.int 0))) (argC (op2 subsO (peekv 4) (ret (.int 0))) argN))) (argC (callM f_law_times (argC (op2 subsO (peekv 4) (ret (.int 1))) (argC (op2 subsO (peekv 4) (ret (.int 1))) argN))) argN))) (argC (op2 subsO (peekv 4) (ret (.int 2))) argN))) (setv 7))
    (seqS (ifS (asB (op2 neO (peekv 6) (bnd (argC (callM f_law_times (argC (bnd (argC (ret (.int 2)) (argC (ret (.int 1)) argN)) mkTup) (argC (op2 subsO (peekv 4) (ret (.int 0))) argN))) (argC (callM f_law_times (argC (bnd (argC (ret (.int 2)) (argC (ret (.int 1)) argN)) mkTup) (argC (op2 subsO (peekv 4) (ret (.int 1))) argN))) (argC (bnd (argC (op2 subO (ret (.int 0)) (op2 subsO (peekv 7) (ret (.int 0)))) (argC (op2 subsO (peekv 7) (ret (.int 1))) argN)) mkTup) argN))) mkTup))) (retS (ret (.bl false))) (ret .nx))
    (seqS (asgS (callM f_law_plus (argC (callM f_law_plus (argC (callM f_law_times (argC (op2 subsO (peekv 6) (ret (.int 0))) (argC (op2 subsO (peekv 1) (ret (.int 0))) argN))) (argC (callM f_law_times (argC (op2 subsO (peekv 6) (ret (.int 1))) (argC (op2 subsO (peekv 1) (ret (.int 1))) argN))) argN))) (argC (op2 subsO (peekv 6) (ret (.int 2))) argN))) (setv 8))
    (ifS (asB (op2 neO (callM f_law_minus (argC (callM f_law_plus (argC (callM f_law_times (argC (op2 subsO (peekv 1) (ret (.int 0))) (argC (op2 subsO (peekv 1) (ret (.int 0))) argN))) (argC (callM f_law_times (argC (op2 subsO (peekv 1) (ret (.int 1))) (argC (op2 subsO (peekv 1) (ret (.int 1))) argN))) argN))) (argC (getv 8) argN))) (peekv 5))) (retS (ret (.bl false))) (ret .nx)))))))
def l1_law_place_right : M Fl :=
    (forS (overA enumO (argC (getv 0) argN)) (tgtT 2 (tgtC (setv 3) (tgtC (setv 4) tgtN))) lb1_law_place_right)
def m_law_place_right : M Fl :=
    (seqS (asgS (callM f_law_nearest (argC (getv 0) (argC (getv 1) argN))) (setv 2))
    (seqS (ifS (asB (op2 neO (op1 reprO (frzd (bnd (argC (callM f_nearest (argC (getv 0) (argC (getv 1) argN))) (argC (callK 0 2 [1, 0] f_nearest argN (argC (getv 1) (argC (getv 0) argN))) argN)) mkLst))) (op1 reprO (frzd (bnd (argC (getv 2) (argC (getv 2) argN)) mkLst))))) (retS (ret (.bl false))) (ret .nx))
    (seqS l1_law_place_right
    (retS (ret (.bl true))))))
def f_law_place_right : List D → M D := fnM 9 2 m_law_place_right
abbrev s_law_right : Stmt := topS 59
theorem sc_law_right : FnScope ["pot", "masts", "shown_v", "one", "other", "places", "long", "values", "turn", "value", "due", "place", "at"] ["pot"] (defScope s_law_right) := ⟨by kernel_rfl, by kernel_rfl, by kernel_rfl, by decide +kernel, by kernel_rfl, by decide +kernel, by decide +kernel⟩
def lb1_law_right : M Fl :=
    (seqS (asgS (callM f_law_are_masts (argC (getv 9) argN)) (setv 10))
    (ifS (asB (op2 neO (op1 reprO (frzd (bnd (argC (callM f_are_masts (argC (getv 9) argN)) (argC (callK 0 1 [0] f_are_masts argN (argC (getv 9) argN)) argN)) mkLst))) (op1 reprO (frzd (bnd (argC (getv 10) (argC (getv 10) argN)) mkLst))))) (retS (ret (.bl false))) (ret .nx)))
def l1_law_right : M Fl :=
    (forS (seqI (getv 7)) (setv 9) lb1_law_right)
def lb2_law_right : M Fl :=
    (appS 7 (callM (f_law_bent 40) (argC (getv 0) (argC (getv 1) argN))))
def l2_law_right : M Fl :=
    (forS (overA rng1O (argC (ret (.int 8)) argN)) (setv 8) lb2_law_right)
def ce1_law_right : M D :=
    (bnd (argC (bnd (argC (getv 12) (argC (ret (.int 1)) argN)) mkTup) (argC (bnd (argC (ret (.int 0)) (argC (ret (.int 1)) argN)) mkTup) (argC (bnd (argC (ret (.int 0)) (argC (ret (.int 1)) argN)) mkTup) argN))) mkTup)
def c1_law_right : M (List D) :=
    (lcM [12] (overA rng1O (argC (ret (.int 61)) argN)) (setv 12) yesM ce1_law_right)
def ce2_law_right : M D :=
    (callM f_law_place_right (argC (getv 1) (argC (getv 11) argN)))
def c2_law_right : M (List D) :=
    (lcM [11] (seqI (getv 5)) (setv 11) yesM ce2_law_right)
def ce3_law_right : M D :=
    (bnd (argC (callM f_law_draw_ratio (argC (getv 0) (argC (ret (.int 20)) argN))) (argC (callM f_law_draw_ratio (argC (getv 0) (argC (ret (.int 20)) argN))) argN)) mkTup)
def c3_law_right : M (List D) :=
    (lcM [8] (overA rng1O (argC (ret (.int 3)) argN)) (setv 8) yesM ce3_law_right)
def m_law_right : M Fl :=
    (seqS (asgS (callM f_law_masts (argC (getv 0) (argC (ret (.int 8)) (argC (ret (.int 20)) argN)))) (setv 1))
    (seqS (ifS (asB (op2 eqO (callM f_law_draw (argC (getv 0) (argC (ret (.int 3)) argN))) (ret (.int 0)))) (asgS (op2 catO (peekv 1) (bnd (argC (bnd (argC (op2 subsO (op2 subsO (peekv 1) (ret (.int 0))) (ret (.int 0))) (argC (op2 subsO (op2 subsO (peekv 1) (ret (.int 0))) (ret (.int 1))) (argC (callM f_law_plus (argC (op2 subsO (op2 subsO (peekv 1) (ret (.int 0))) (ret (.int 2))) (argC (bnd (argC (ret (.int 1)) (argC (ret (.int 2)) argN)) mkTup) argN))) argN))) mkTup) argN) mkTup)) (setv 1)) (ret .nx))
    (seqS (par3 (argC (op1 reprO (peekv 1)) (argC (callM f_law_pick (argC (getv 0) (argC (getv 1) argN))) (argC (callM f_law_pick (argC (getv 0) (argC (getv 1) argN))) argN))) 2 3 4)
    (seqS (ownS c3_law_right 5)
    (seqS (appS 5 (bnd (argC (callM f_law_times (argC (callM f_law_plus (argC (op2 subsO (peekv 3) (ret (.int 0))) (argC (op2 subsO (peekv 4) (ret (.int 0))) argN))) (argC (bnd (argC (ret (.int 1)) (argC (ret (.int 2)) argN)) mkTup) argN))) (argC (callM f_law_times (argC (callM f_law_plus (argC (op2 subsO (peekv 3) (ret (.int 1))) (argC (op2 subsO (peekv 4) (ret (.int 1))) argN))) (argC (bnd (argC (ret (.int 1)) (argC (ret (.int 2)) argN)) mkTup) argN))) argN)) mkTup))
    (seqS (appS 5 (bnd (argC (op2 subsO (peekv 3) (ret (.int 0))) (argC (op2 subsO (peekv 3) (ret (.int 1))) argN)) mkTup))
    (seqS (ifS (orB (notB (testM (op1 allO (frzd c2_law_right)))) (asB (op2 neO (callK 0 2 [1, 0] f_mast_plane argN (argC (ret (.int 0)) (argC (getv 1) argN))) (callM f_mast_plane (argC (getv 1) (argC (ret (.int 0)) argN)))))) (retS (ret (.bl false))) (ret .nx))
    (seqS (asgS (op1 tupleO (frzd c1_law_right)) (setv 6))
    (seqS (ownS (bnd (argC (getv 1) (argC (op1 listO (peekv 1)) (argC (op2 repO (sliceM (peekv 1) partN (partS (ret (.int 1)))) (ret (.int 2))) (argC (bnd argN mkTup) (argC (ret .non) (argC (ret (.int 0)) (argC (ret (.str "m")) (argC (ret .dct) (argC (op2 subsO (peekv 1) (ret (.int 0))) (argC (getv 6) (argC (sliceM (peekv 6) (partS (ret (.int 1))) partN) (argC (op2 catO (peekv 1) (bnd (argC (bnd (argC (ret (.int 0)) (argC (ret (.int 0)) (argC (ret (.int 0)) argN))) mkTup) argN) mkTup)) argN)))))))))))) mkLst) 7)
    (seqS l2_law_right
    (seqS l1_law_right
    (retS (op2 eqO (op1 reprO (peekv 1)) (peekv 2))))))))))))))
def f_law_right : List D → M D := fnM 13 1 m_law_right
abbrev s_law : Stmt := topS 60
theorem sc_law : FnScope ["script", "k"] ["script"] (defScope s_law) := ⟨by kernel_rfl, by kernel_rfl, by kernel_rfl, by decide +kernel, by kernel_rfl, by decide +kernel, by decide +kernel⟩
def ce1_law : M D :=
    (callM f_law_right (argC (callM f_law_pot (argC (getv 0) (argC (getv 1) argN))) argN))
def c1_law : M (List D) :=
    (lcM [1] (overA rng1O (argC (op2 maxO (ret (.int 1)) (op2 minO (ret (.int 2)) (op1 lenO (peekv 0)))) argN)) (setv 1) yesM ce1_law)
def m_law : M Fl :=
    (retS (op1 allO (frzd c1_law)))
def f_law : List D → M D := fnM 2 1 m_law
structure Tx (K : PySem.W.Frag) (mg : Str → Option Value) where
  a_is_integer : Addr
  d_is_integer : FuncData
  F_is_integer : Fun K "is_integer" "is_integer" s_is_integer a_is_integer d_is_integer
  C_is_integer : Cf K mg "is_integer" a_is_integer d_is_integer ["value"]
  a_is_within : Addr
  d_is_within : FuncData
  F_is_within : Fun K "is_within" "is_within" s_is_within a_is_within d_is_within
  C_is_within : Cf K mg "is_within" a_is_within d_is_within ["value", "low", "high"]
  a_is_row : Addr
  d_is_row : FuncData
  F_is_row : Fun K "is_row" "is_row" s_is_row a_is_row d_is_row
  C_is_row : Cf K mg "is_row" a_is_row d_is_row ["value", "many"]
  a_fraction : Addr
  d_fraction : FuncData
  F_fraction : Fun K "fraction" "fraction" s_fraction a_fraction d_fraction
  C_fraction : Cf K mg "fraction" a_fraction d_fraction ["number", "under"]
  a_plus : Addr
  d_plus : FuncData
  F_plus : Fun K "plus" "plus" s_plus a_plus d_plus
  C_plus : Cf K mg "plus" a_plus d_plus ["one", "other"]
  a_opposite : Addr
  d_opposite : FuncData
  F_opposite : Fun K "opposite" "opposite" s_opposite a_opposite d_opposite
  C_opposite : Cf K mg "opposite" a_opposite d_opposite ["ratio"]
  a_minus : Addr
  d_minus : FuncData
  F_minus : Fun K "minus" "minus" s_minus a_minus d_minus
  C_minus : Cf K mg "minus" a_minus d_minus ["one", "other"]
  a_product : Addr
  d_product : FuncData
  F_product : Fun K "product" "product" s_product a_product d_product
  C_product : Cf K mg "product" a_product d_product ["one", "other"]
  a_is_less : Addr
  d_is_less : FuncData
  F_is_less : Fun K "is_less" "is_less" s_is_less a_is_less d_is_less
  C_is_less : Cf K mg "is_less" a_is_less d_is_less ["one", "other"]
  a_least : Addr
  d_least : FuncData
  F_least : Fun K "least" "least" s_least a_least d_least
  C_least : Cf K mg "least" a_least d_least ["ratios"]
  a_shown : Addr
  d_shown : FuncData
  F_shown : Fun K "shown" "shown" s_shown a_shown d_shown
  C_shown : Cf K mg "shown" a_shown d_shown ["ratio"]
  a_is_ratio : Addr
  d_is_ratio : FuncData
  F_is_ratio : Fun K "is_ratio" "is_ratio" s_is_ratio a_is_ratio d_is_ratio
  C_is_ratio : Cf K mg "is_ratio" a_is_ratio d_is_ratio ["value"]
  a_is_place : Addr
  d_is_place : FuncData
  F_is_place : Fun K "is_place" "is_place" s_is_place a_is_place d_is_place
  C_is_place : Cf K mg "is_place" a_is_place d_is_place ["value"]
  a_want_place : Addr
  d_want_place : FuncData
  F_want_place : Fun K "want_place" "want_place" s_want_place a_want_place d_want_place
  C_want_place : Cf K mg "want_place" a_want_place d_want_place ["value"]
  a_is_mast : Addr
  d_is_mast : FuncData
  F_is_mast : Fun K "is_mast" "is_mast" s_is_mast a_is_mast d_is_mast
  C_is_mast : Cf K mg "is_mast" a_is_mast d_is_mast ["value"]
  a_are_masts_of : Addr
  d_are_masts_of : FuncData
  F_are_masts_of : Fun K "are_masts_of" "are_masts_of" s_are_masts_of a_are_masts_of d_are_masts_of
  C_are_masts_of : Cf K mg "are_masts_of" a_are_masts_of d_are_masts_of ["value"]
  a_want_masts : Addr
  d_want_masts : FuncData
  F_want_masts : Fun K "want_masts" "want_masts" s_want_masts a_want_masts d_want_masts
  C_want_masts : Cf K mg "want_masts" a_want_masts d_want_masts ["value"]
  a_want_mast : Addr
  d_want_mast : FuncData
  F_want_mast : Fun K "want_mast" "want_mast" s_want_mast a_want_mast d_want_mast
  C_want_mast : Cf K mg "want_mast" a_want_mast d_want_mast ["masts", "value"]
  a_square_of : Addr
  d_square_of : FuncData
  F_square_of : Fun K "square_of" "square_of" s_square_of a_square_of d_square_of
  C_square_of : Cf K mg "square_of" a_square_of d_square_of ["x", "y"]
  a_plane_by : Addr
  d_plane_by : FuncData
  F_plane_by : Fun K "plane_by" "plane_by" s_plane_by a_plane_by d_plane_by
  C_plane_by : Cf K mg "plane_by" a_plane_by d_plane_by ["mast"]
  a_removal_by : Addr
  d_removal_by : FuncData
  F_removal_by : Fun K "removal_by" "removal_by" s_removal_by a_removal_by d_removal_by
  C_removal_by : Cf K mg "removal_by" a_removal_by d_removal_by ["mast", "place"]
  a_nearest_by : Addr
  d_nearest_by : FuncData
  F_nearest_by : Fun K "nearest_by" "nearest_by" s_nearest_by a_nearest_by d_nearest_by
  C_nearest_by : Cf K mg "nearest_by" a_nearest_by d_nearest_by ["masts", "place"]
  a_are_masts : Addr
  d_are_masts : FuncData
  F_are_masts : Fun K "are_masts" "are_masts" s_are_masts a_are_masts d_are_masts
  C_are_masts : Cf K mg "are_masts" a_are_masts d_are_masts ["value"]
  a_removal : Addr
  d_removal : FuncData
  F_removal : Fun K "removal" "removal" s_removal a_removal d_removal
  C_removal : Cf K mg "removal" a_removal d_removal ["masts", "mast", "place"]
  a_nearest : Addr
  d_nearest : FuncData
  F_nearest : Fun K "nearest" "nearest" s_nearest a_nearest d_nearest
  C_nearest : Cf K mg "nearest" a_nearest d_nearest ["masts", "place"]
  a_mast_plane : Addr
  d_mast_plane : FuncData
  F_mast_plane : Fun K "mast_plane" "mast_plane" s_mast_plane a_mast_plane d_mast_plane
  C_mast_plane : Cf K mg "mast_plane" a_mast_plane d_mast_plane ["masts", "mast"]
  a_law_pot : Addr
  d_law_pot : FuncData
  F_law_pot : Fun K "_law_pot" "_law_pot" s_law_pot a_law_pot d_law_pot
  C_law_pot : Cf K mg "_law_pot" a_law_pot d_law_pot ["script", "k"]
  a_law_draw : Addr
  d_law_draw : FuncData
  F_law_draw : Fun K "_law_draw" "_law_draw" s_law_draw a_law_draw d_law_draw
  C_law_draw : Cf K mg "_law_draw" a_law_draw d_law_draw ["pot", "many"]
  a_law_pick : Addr
  d_law_pick : FuncData
  F_law_pick : Fun K "_law_pick" "_law_pick" s_law_pick a_law_pick d_law_pick
  C_law_pick : Cf K mg "_law_pick" a_law_pick d_law_pick ["pot", "some"]
  a_law_low : Addr
  d_law_low : FuncData
  F_law_low : Fun K "_law_low" "_law_low" s_law_low a_law_low d_law_low
  C_law_low : Cf K mg "_law_low" a_law_low d_law_low ["number", "under"]
  a_law_plus : Addr
  d_law_plus : FuncData
  F_law_plus : Fun K "_law_plus" "_law_plus" s_law_plus a_law_plus d_law_plus
  C_law_plus : Cf K mg "_law_plus" a_law_plus d_law_plus ["one", "other"]
  a_law_minus : Addr
  d_law_minus : FuncData
  F_law_minus : Fun K "_law_minus" "_law_minus" s_law_minus a_law_minus d_law_minus
  C_law_minus : Cf K mg "_law_minus" a_law_minus d_law_minus ["one", "other"]
  a_law_times : Addr
  d_law_times : FuncData
  F_law_times : Fun K "_law_times" "_law_times" s_law_times a_law_times d_law_times
  C_law_times : Cf K mg "_law_times" a_law_times d_law_times ["one", "other"]
  a_law_less : Addr
  d_law_less : FuncData
  F_law_less : Fun K "_law_less" "_law_less" s_law_less a_law_less d_law_less
  C_law_less : Cf K mg "_law_less" a_law_less d_law_less ["one", "other"]
  a_law_is_ratio : Addr
  d_law_is_ratio : FuncData
  F_law_is_ratio : Fun K "_law_is_ratio" "_law_is_ratio" s_law_is_ratio a_law_is_ratio d_law_is_ratio
  C_law_is_ratio : Cf K mg "_law_is_ratio" a_law_is_ratio d_law_is_ratio ["value"]
  a_law_removal : Addr
  d_law_removal : FuncData
  F_law_removal : Fun K "_law_removal" "_law_removal" s_law_removal a_law_removal d_law_removal
  C_law_removal : Cf K mg "_law_removal" a_law_removal d_law_removal ["mast", "place"]
  a_law_nearest : Addr
  d_law_nearest : FuncData
  F_law_nearest : Fun K "_law_nearest" "_law_nearest" s_law_nearest a_law_nearest d_law_nearest
  C_law_nearest : Cf K mg "_law_nearest" a_law_nearest d_law_nearest ["masts", "place"]
  a_law_draw_ratio : Addr
  d_law_draw_ratio : FuncData
  F_law_draw_ratio : Fun K "_law_draw_ratio" "_law_draw_ratio" s_law_draw_ratio a_law_draw_ratio d_law_draw_ratio
  C_law_draw_ratio : Cf K mg "_law_draw_ratio" a_law_draw_ratio d_law_draw_ratio ["pot", "top"]
  a_law_masts : Addr
  d_law_masts : FuncData
  F_law_masts : Fun K "_law_masts" "_law_masts" s_law_masts a_law_masts d_law_masts
  C_law_masts : Cf K mg "_law_masts" a_law_masts d_law_masts ["pot", "most", "top"]
  a_law_bent : Addr
  d_law_bent : FuncData
  F_law_bent : Fun K "_law_bent" "_law_bent" s_law_bent a_law_bent d_law_bent
  C_law_bent : Cf K mg "_law_bent" a_law_bent d_law_bent ["pot", "value"]
  a_law_are_masts : Addr
  d_law_are_masts : FuncData
  F_law_are_masts : Fun K "_law_are_masts" "_law_are_masts" s_law_are_masts a_law_are_masts d_law_are_masts
  C_law_are_masts : Cf K mg "_law_are_masts" a_law_are_masts d_law_are_masts ["value"]
  a_law_place_right : Addr
  d_law_place_right : FuncData
  F_law_place_right : Fun K "_law_place_right" "_law_place_right" s_law_place_right a_law_place_right d_law_place_right
  C_law_place_right : Cf K mg "_law_place_right" a_law_place_right d_law_place_right ["masts", "place"]
  a_law_right : Addr
  d_law_right : FuncData
  F_law_right : Fun K "_law_right" "_law_right" s_law_right a_law_right d_law_right
  C_law_right : Cf K mg "_law_right" a_law_right d_law_right ["pot"]
  a_law : Addr
  d_law : FuncData
  F_law : Fun K "law" "law" s_law a_law d_law
  C_law : Cf K mg "law" a_law d_law ["script"]
  kb_removal_0_place_mast_masts : KB K d_removal ["masts", "mast", "place"] ["place", "mast", "masts"] 0 [2, 1, 0]
  kb_nearest_0_place_masts : KB K d_nearest ["masts", "place"] ["place", "masts"] 0 [1, 0]
  kb_are_masts_0_value : KB K d_are_masts ["value"] ["value"] 0 [0]
  kb_mast_plane_0_mast_masts : KB K d_mast_plane ["masts", "mast"] ["mast", "masts"] 0 [1, 0]
  z_abs : mg "abs" = none
  z_all : mg "all" = none
  z_any : mg "any" = none
  z_bool : mg "bool" = none
  z_divmod : mg "divmod" = none
  z_enumerate : mg "enumerate" = none
  g_gcd : mg "gcd" = some (.builtin "math.gcd")
  z_int : mg "int" = none
  z_isinstance : mg "isinstance" = none
  z_len : mg "len" = none
  z_list : mg "list" = none
  z_max : mg "max" = none
  z_min : mg "min" = none
  z_range : mg "range" = none
  z_repr : mg "repr" = none
  z_set : mg "set" = none
  z_tuple : mg "tuple" = none
  g_BOUND : ∃ t, mg "BOUND" = some (.int (10000000000000000000000000000000000000000000000000000000000000000000000000000000000000000000000000000000000000000000000000000000000000000000000000000000000000000000000000000000000000000000000000000000000000000000000000000000000000000000000000000000000000000000000000000000000000000000000000000000000000000000000000000000000000000000000000000000000000000000000000000000000000000000000000000000000000000) t)
  g_MOST_MASTS : ∃ t, mg "MOST_MASTS" = some (.int (60) t)
  g_TWO : GTup K mg "TWO" [(.int (2)), (.int (1))]
section
variable {P : Program} {w : World} {K : PySem.W.Frag} {lt : Nat → LamI} {T : List (Addr × Str)} {mg : Str → Option Value} {base : Heap}
theorem ok_is_integer (t : Tx K mg) : FnD P w ⟨K, lt⟩ T mg base 1 t.a_is_integer t.d_is_integer ["value"] f_is_integer := fnD_mk (k := 0) t.F_is_integer sc_is_integer fun cdv A outer s H E B hgd hr => by
    have tk := takes_of (X := Bx P w K mg base ["value"] "is_integer" (defScope s_is_integer) t.a_is_integer cdv A outer s H E) rfl rfl rfl rfl
    have hp := passes_of (X := Bx P w K mg base ["value"] "is_integer" (defScope s_is_integer) t.a_is_integer cdv A outer s H E) rfl
    exact s_one (s_ret (d_and (x_isi .int "int" t.z_isinstance t.z_int bb_int (u 0)) (d_one (d_not (p_of (x_isi .bool "bool" t.z_isinstance t.z_bool bb_bool (u 0)))))))
theorem ok_is_within (t : Tx K mg) : FnD P w ⟨K, lt⟩ T mg base 2 t.a_is_within t.d_is_within ["value", "low", "high"] f_is_within := fnD_mk (k := 1) t.F_is_within sc_is_within fun cdv A outer s H E B hgd hr => by
    have tk := takes_of (X := Bx P w K mg base ["value", "low", "high"] "is_within" (defScope s_is_within) t.a_is_within cdv A outer s H E) rfl rfl rfl rfl
    have hp := passes_of (X := Bx P w K mg base ["value", "low", "high"] "is_within" (defScope s_is_within) t.a_is_within cdv A outer s H E) rfl
    exact s_one (s_ret (d_and (cl t.C_is_integer (ok_is_integer t) hgd hr tk (a_cons (v 0) a_nil)) (d_one (d_chain o_le o_le (u 1) (u 0) (u 2)))))
theorem ok_is_row (t : Tx K mg) : FnD P w ⟨K, lt⟩ T mg base 1 t.a_is_row t.d_is_row ["value", "many"] f_is_row := fnD_mk (k := 0) t.F_is_row sc_is_row fun cdv A outer s H E B hgd hr => by
    have tk := takes_of (X := Bx P w K mg base ["value", "many"] "is_row" (defScope s_is_row) t.a_is_row cdv A outer s H E) rfl rfl rfl rfl
    have hp := passes_of (X := Bx P w K mg base ["value", "many"] "is_row" (defScope s_is_row) t.a_is_row cdv A outer s H E) rfl
    exact s_one (s_ret (d_and (x_isi .tuple "tuple" t.z_isinstance t.z_tuple bb_tuple (u 0)) (d_one (kD (o_eq (hu64_of hr)) (p_of (x_len t.z_len (u 0))) (u 1)))))
theorem ok_fraction (t : Tx K mg) : FnD P w ⟨K, lt⟩ T mg base 1 t.a_fraction t.d_fraction ["number", "under"] f_fraction := fnD_mk (k := 0) t.F_fraction sc_fraction fun cdv A outer s H E B hgd hr => by
    have tk := takes_of (X := Bx P w K mg base ["number", "under", "shared"] "fraction" (defScope s_fraction) t.a_fraction cdv A outer s H E) rfl rfl rfl rfl
    have hp := passes_of (X := Bx P w K mg base ["number", "under", "shared"] "fraction" (defScope s_fraction) t.a_fraction cdv A outer s H E) rfl
    exact s_cons (sset 2 sc_fraction.nd (d_if (kB o_gt (u 1) (p_of d_int)) (x_gcd t.g_gcd (u 0) (u 1)) (d_un o_neg (p_of (x_gcd t.g_gcd (u 0) (u 1))))))
      (s_one (s_ret (d_tup (a_cons (d_bin o_fdiv (u 0) (u 2)) (a_cons (d_bin o_fdiv (u 1) (u 2)) a_nil)))))
theorem ok_plus (t : Tx K mg) : FnD P w ⟨K, lt⟩ T mg base 2 t.a_plus t.d_plus ["one", "other"] f_plus := fnD_mk (k := 1) t.F_plus sc_plus fun cdv A outer s H E B hgd hr => by
    have tk := takes_of (X := Bx P w K mg base ["one", "other"] "plus" (defScope s_plus) t.a_plus cdv A outer s H E) rfl rfl rfl rfl
    have hp := passes_of (X := Bx P w K mg base ["one", "other"] "plus" (defScope s_plus) t.a_plus cdv A outer s H E) rfl
    exact s_cons (s_if (b_chain (o_eq (hu64_of hr)) (o_eq (hu64_of hr)) (p_of (d_subs (u 0) (p_of d_int))) (p_of (d_subs (u 1) (p_of d_int))) (p_of d_int)) (s_one (s_ret (d_tup (a_cons (d_bin o_cat (p_of (d_subs (u 0) (p_of d_int))) (p_of (d_subs (u 1) (p_of d_int)))) (a_cons d_int a_nil))))) s_nil)
      (s_one (s_ret (cl t.C_fraction (ok_fraction t) hgd hr tk (a_cons (d_bin o_cat (p_of (d_bin o_rep (p_of (d_subs (u 0) (p_of d_int))) (p_of (d_subs (u 1) (p_of d_int))))) (p_of (d_bin o_rep (p_of (d_subs (u 1) (p_of d_int))) (p_of (d_subs (u 0) (p_of d_int)))))) (a_cons (d_bin o_rep (p_of (d_subs (u 0) (p_of d_int))) (p_of (d_subs (u 1) (p_of d_int)))) a_nil)))))
theorem ok_opposite (t : Tx K mg) : FnD P w ⟨K, lt⟩ T mg base 1 t.a_opposite t.d_opposite ["ratio"] f_opposite := fnD_mk (k := 0) t.F_opposite sc_opposite fun cdv A outer s H E B hgd hr => by
    have tk := takes_of (X := Bx P w K mg base ["ratio"] "opposite" (defScope s_opposite) t.a_opposite cdv A outer s H E) rfl rfl rfl rfl
    have hp := passes_of (X := Bx P w K mg base ["ratio"] "opposite" (defScope s_opposite) t.a_opposite cdv A outer s H E) rfl
    exact s_one (s_ret (d_tup (a_cons (d_un o_neg (p_of (d_subs (u 0) (p_of d_int)))) (a_cons (d_subs (u 0) (p_of d_int)) a_nil))))
theorem ok_minus (t : Tx K mg) : FnD P w ⟨K, lt⟩ T mg base 3 t.a_minus t.d_minus ["one", "other"] f_minus := fnD_mk (k := 2) t.F_minus sc_minus fun cdv A outer s H E B hgd hr => by
    have tk := takes_of (X := Bx P w K mg base ["one", "other"] "minus" (defScope s_minus) t.a_minus cdv A outer s H E) rfl rfl rfl rfl
    have hp := passes_of (X := Bx P w K mg base ["one", "other"] "minus" (defScope s_minus) t.a_minus cdv A outer s H E) rfl
    exact s_one (s_ret (cl t.C_plus (ok_plus t) hgd hr tk (a_cons (v 0) (a_cons (d_tup (a_cons (d_un o_neg (p_of (d_subs (u 1) (p_of d_int)))) (a_cons (d_subs (u 1) (p_of d_int)) a_nil))) a_nil))))
theorem ok_product (t : Tx K mg) : FnD P w ⟨K, lt⟩ T mg base 2 t.a_product t.d_product ["one", "other"] f_product := fnD_mk (k := 1) t.F_product sc_product fun cdv A outer s H E B hgd hr => by
    have tk := takes_of (X := Bx P w K mg base ["one", "other"] "product" (defScope s_product) t.a_product cdv A outer s H E) rfl rfl rfl rfl
    have hp := passes_of (X := Bx P w K mg base ["one", "other"] "product" (defScope s_product) t.a_product cdv A outer s H E) rfl
    exact s_cons (s_if (b_chain (o_eq (hu64_of hr)) (o_eq (hu64_of hr)) (p_of (d_subs (u 0) (p_of d_int))) (p_of (d_subs (u 1) (p_of d_int))) (p_of d_int)) (s_one (s_ret (d_tup (a_cons (d_bin o_rep (p_of (d_subs (u 0) (p_of d_int))) (p_of (d_subs (u 1) (p_of d_int)))) (a_cons d_int a_nil))))) s_nil)
      (s_one (s_ret (cl t.C_fraction (ok_fraction t) hgd hr tk (a_cons (d_bin o_rep (p_of (d_subs (u 0) (p_of d_int))) (p_of (d_subs (u 1) (p_of d_int)))) (a_cons (d_bin o_rep (p_of (d_subs (u 0) (p_of d_int))) (p_of (d_subs (u 1) (p_of d_int)))) a_nil)))))
theorem ok_is_less (t : Tx K mg) : FnD P w ⟨K, lt⟩ T mg base 1 t.a_is_less t.d_is_less ["one", "other"] f_is_less := fnD_mk (k := 0) t.F_is_less sc_is_less fun cdv A outer s H E B hgd hr => by
    have tk := takes_of (X := Bx P w K mg base ["one", "other"] "is_less" (defScope s_is_less) t.a_is_less cdv A outer s H E) rfl rfl rfl rfl
    have hp := passes_of (X := Bx P w K mg base ["one", "other"] "is_less" (defScope s_is_less) t.a_is_less cdv A outer s H E) rfl
    exact s_one (s_ret (kD o_lt (p_of (d_bin o_rep (p_of (d_subs (u 0) (p_of d_int))) (p_of (d_subs (u 1) (p_of d_int))))) (p_of (d_bin o_rep (p_of (d_subs (u 1) (p_of d_int))) (p_of (d_subs (u 0) (p_of d_int)))))))
theorem ok_least (t : Tx K mg) : FnD P w ⟨K, lt⟩ T mg base 2 t.a_least t.d_least ["ratios"] f_least := fnD_mk (k := 1) t.F_least sc_least fun cdv A outer s H E B hgd hr => by
    have tk := takes_of (X := Bx P w K mg base ["ratios", "found", "ratio"] "least" (defScope s_least) t.a_least cdv A outer s H E) rfl rfl rfl rfl
    have hp := passes_of (X := Bx P w K mg base ["ratios", "found", "ratio"] "least" (defScope s_least) t.a_least cdv A outer s H E) rfl
    exact s_cons (sset 1 sc_least.nd (d_subs (u 0) (p_of d_int)))
      (s_cons (s_for hp rfl (i_seq (v 0)) (gn 2 sc_least.nd) (s_one (sset 1 sc_least.nd (d_if (b_test (p_of (cl t.C_is_less (ok_is_less t) hgd hr tk (a_cons (v 2) (a_cons (v 1) a_nil))))) (v 2) (v 1)))))
      (s_one (s_ret (v 1))))
theorem ok_shown (t : Tx K mg) : FnD P w ⟨K, lt⟩ T mg base 1 t.a_shown t.d_shown ["ratio"] f_shown := fnD_mk (k := 0) t.F_shown sc_shown fun cdv A outer s H E B hgd hr => by
    have tk := takes_of (X := Bx P w K mg base ["ratio"] "shown" (defScope s_shown) t.a_shown cdv A outer s H E) rfl rfl rfl rfl
    have hp := passes_of (X := Bx P w K mg base ["ratio"] "shown" (defScope s_shown) t.a_shown cdv A outer s H E) rfl
    exact s_cons (s_if ((b_or (kB o_ge (p_of (d_subs (u 0) (p_of d_int))) (p_of (gint t.g_BOUND))) (b_or1 (kB o_ge (p_of (x_abs t.z_abs (p_of (d_subs (u 0) (p_of d_int))))) (p_of (gint t.g_BOUND))))).pt) ss_never s_nil)
      (s_one (s_ret (v 0)))
theorem ok_is_ratio (t : Tx K mg) : FnD P w ⟨K, lt⟩ T mg base 2 t.a_is_ratio t.d_is_ratio ["value"] f_is_ratio := fnD_mk (k := 1) t.F_is_ratio sc_is_ratio fun cdv A outer s H E B hgd hr => by
    have tk := takes_of (X := Bx P w K mg base ["value"] "is_ratio" (defScope s_is_ratio) t.a_is_ratio cdv A outer s H E) rfl rfl rfl rfl
    have hp := passes_of (X := Bx P w K mg base ["value"] "is_ratio" (defScope s_is_ratio) t.a_is_ratio cdv A outer s H E) rfl
    exact s_cons (s_if ((b_or (b_not (b_test (p_of (cl t.C_is_row (ok_is_row t) hgd hr tk (a_cons (v 0) (a_cons d_int a_nil)))))) (b_or (b_not (b_test (p_of (cl t.C_is_integer (ok_is_integer t) hgd hr tk (a_cons (d_subs (u 0) (p_of d_int)) a_nil))))) (b_or1 (b_not (b_test (p_of (cl t.C_is_integer (ok_is_integer t) hgd hr tk (a_cons (d_subs (u 0) (p_of d_int)) a_nil)))))))).pt) (s_one (s_ret d_bl)) s_nil)
      (s_cons (s_if ((b_or (b_not (b_chain o_le o_lt (p_of d_int) (p_of (d_subs (u 0) (p_of d_int))) (p_of (gint t.g_BOUND)))) (b_or1 (kB o_ge (p_of (x_abs t.z_abs (p_of (d_subs (u 0) (p_of d_int))))) (p_of (gint t.g_BOUND))))).pt) (s_one (s_ret d_bl)) s_nil)
      (s_one (s_ret (kD (o_eq (hu64_of hr)) (p_of (x_gcd t.g_gcd (p_of (d_subs (u 0) (p_of d_int))) (p_of (d_subs (u 0) (p_of d_int))))) (p_of d_int)))))
theorem ok_is_place (t : Tx K mg) : FnD P w ⟨K, lt⟩ T mg base 3 t.a_is_place t.d_is_place ["value"] f_is_place := fnD_mk (k := 2) t.F_is_place sc_is_place fun cdv A outer s H E B hgd hr => by
    have tk := takes_of (X := Bx P w K mg base ["value"] "is_place" (defScope s_is_place) t.a_is_place cdv A outer s H E) rfl rfl rfl rfl
    have hp := passes_of (X := Bx P w K mg base ["value"] "is_place" (defScope s_is_place) t.a_is_place cdv A outer s H E) rfl
    exact s_one (s_ret (d_and (cl t.C_is_row (ok_is_row t) hgd hr tk (a_cons (v 0) (a_cons d_int a_nil))) (d_and (cl t.C_is_ratio (ok_is_ratio t) hgd hr tk (a_cons (d_subs (u 0) (p_of d_int)) a_nil)) (d_one (cl t.C_is_ratio (ok_is_ratio t) hgd hr tk (a_cons (d_subs (u 0) (p_of d_int)) a_nil))))))
theorem ok_want_place (t : Tx K mg) : FnD P w ⟨K, lt⟩ T mg base 4 t.a_want_place t.d_want_place ["value"] f_want_place := fnD_mk (k := 3) t.F_want_place sc_want_place fun cdv A outer s H E B hgd hr => by
    have tk := takes_of (X := Bx P w K mg base ["value"] "want_place" (defScope s_want_place) t.a_want_place cdv A outer s H E) rfl rfl rfl rfl
    have hp := passes_of (X := Bx P w K mg base ["value"] "want_place" (defScope s_want_place) t.a_want_place cdv A outer s H E) rfl
    exact s_cons (s_if (b_not (b_test (p_of (cl t.C_is_place (ok_is_place t) hgd hr tk (a_cons (v 0) a_nil))))) ss_never s_nil)
      (s_one (s_ret (v 0)))
theorem ok_is_mast (t : Tx K mg) : FnD P w ⟨K, lt⟩ T mg base 3 t.a_is_mast t.d_is_mast ["value"] f_is_mast := fnD_mk (k := 2) t.F_is_mast sc_is_mast fun cdv A outer s H E B hgd hr => by
    have tk := takes_of (X := Bx P w K mg base ["value", "part"] "is_mast" (defScope s_is_mast) t.a_is_mast cdv A outer s H E) rfl rfl rfl rfl
    have hp := passes_of (X := Bx P w K mg base ["value", "part"] "is_mast" (defScope s_is_mast) t.a_is_mast cdv A outer s H E) rfl
    exact s_one (s_ret (d_and (cl t.C_is_row (ok_is_row t) hgd hr tk (a_cons (v 0) (a_cons d_int a_nil))) (d_one (x_all t.z_all (p_of (d_frz (fcomp (own := [("part", 1)]) sc_is_mast.nd (i_seq (v 0)) (fun _ _ _ _ _ => cn 1 sc_is_mast.nd) (fun _ _ _ _ _ => ts_nil) (fun _ _ _ _ _ => cl t.C_is_ratio (ok_is_ratio t) hgd hr takes0 (a_cons (v 1) a_nil)))))))))
theorem ok_are_masts_of (t : Tx K mg) : FnD P w ⟨K, lt⟩ T mg base 4 t.a_are_masts_of t.d_are_masts_of ["value"] f_are_masts_of := fnD_mk (k := 3) t.F_are_masts_of sc_are_masts_of fun cdv A outer s H E B hgd hr => by
    have tk := takes_of (X := Bx P w K mg base ["value", "mast"] "are_masts_of" (defScope s_are_masts_of) t.a_are_masts_of cdv A outer s H E) rfl rfl rfl rfl
    have hp := passes_of (X := Bx P w K mg base ["value", "mast"] "are_masts_of" (defScope s_are_masts_of) t.a_are_masts_of cdv A outer s H E) rfl
    exact s_cons (s_if ((b_or (b_not (b_test (p_of (x_isi .tuple "tuple" t.z_isinstance t.z_tuple bb_tuple (u 0))))) (b_or1 (b_not (b_chain o_le o_le (p_of d_int) (p_of (x_len t.z_len (u 0))) (p_of (gint t.g_MOST_MASTS)))))).pt) (s_one (s_ret d_bl)) s_nil)
      (s_one (s_ret (d_and (x_all t.z_all (p_of (d_frz (fcomp (own := [("mast", 1)]) sc_are_masts_of.nd (i_seq (v 0)) (fun _ _ _ _ _ => cn 1 sc_are_masts_of.nd) (fun _ _ _ _ _ => ts_nil) (fun _ _ _ _ _ => cl t.C_is_mast (ok_is_mast t) hgd hr takes0 (a_cons (v 1) a_nil)))))) (d_one (kD (o_eq (hu64_of hr)) (p_of (x_lenset t.z_len t.z_set (hu65_of hr) (u 0))) (p_of (x_len t.z_len (u 0))))))))
theorem ok_want_masts (t : Tx K mg) : FnD P w ⟨K, lt⟩ T mg base 5 t.a_want_masts t.d_want_masts ["value"] f_want_masts := fnD_mk (k := 4) t.F_want_masts sc_want_masts fun cdv A outer s H E B hgd hr => by
    have tk := takes_of (X := Bx P w K mg base ["value"] "want_masts" (defScope s_want_masts) t.a_want_masts cdv A outer s H E) rfl rfl rfl rfl
    have hp := passes_of (X := Bx P w K mg base ["value"] "want_masts" (defScope s_want_masts) t.a_want_masts cdv A outer s H E) rfl
    exact s_cons (s_if (b_not (b_test (p_of (cl t.C_are_masts_of (ok_are_masts_of t) hgd hr tk (a_cons (v 0) a_nil))))) ss_never s_nil)
      (s_one (s_ret (v 0)))
theorem ok_want_mast (t : Tx K mg) : FnD P w ⟨K, lt⟩ T mg base 3 t.a_want_mast t.d_want_mast ["masts", "value"] f_want_mast := fnD_mk (k := 2) t.F_want_mast sc_want_mast fun cdv A outer s H E B hgd hr => by
    have tk := takes_of (X := Bx P w K mg base ["masts", "value"] "want_mast" (defScope s_want_mast) t.a_want_mast cdv A outer s H E) rfl rfl rfl rfl
    have hp := passes_of (X := Bx P w K mg base ["masts", "value"] "want_mast" (defScope s_want_mast) t.a_want_mast cdv A outer s H E) rfl
    exact s_cons (s_if (b_not (b_test (p_of (cl t.C_is_within (ok_is_within t) hgd hr tk (a_cons (v 1) (a_cons d_int (a_cons (d_bin o_sub (p_of (x_len t.z_len (u 0))) (p_of d_int)) a_nil))))))) ss_never s_nil)
      (s_one (s_ret (v 1)))
theorem ok_square_of (t : Tx K mg) : FnD P w ⟨K, lt⟩ T mg base 3 t.a_square_of t.d_square_of ["x", "y"] f_square_of := fnD_mk (k := 2) t.F_square_of sc_square_of fun cdv A outer s H E B hgd hr => by
    have tk := takes_of (X := Bx P w K mg base ["x", "y"] "square_of" (defScope s_square_of) t.a_square_of cdv A outer s H E) rfl rfl rfl rfl
    have hp := passes_of (X := Bx P w K mg base ["x", "y"] "square_of" (defScope s_square_of) t.a_square_of cdv A outer s H E) rfl
    exact s_one (s_ret (cl t.C_plus (ok_plus t) hgd hr tk (a_cons (cl t.C_product (ok_product t) hgd hr tk (a_cons (v 0) (a_cons (v 0) a_nil))) (a_cons (cl t.C_product (ok_product t) hgd hr tk (a_cons (v 1) (a_cons (v 1) a_nil))) a_nil))))
theorem ok_plane_by (t : Tx K mg) : FnD P w ⟨K, lt⟩ T mg base 4 t.a_plane_by t.d_plane_by ["mast"] f_plane_by := fnD_mk (k := 3) t.F_plane_by sc_plane_by fun cdv A outer s H E B hgd hr => by
    have tk := takes_of (X := Bx P w K mg base ["mast", "x", "y", "handicap"] "plane_by" (defScope s_plane_by) t.a_plane_by cdv A outer s H E) rfl rfl rfl rfl
    have hp := passes_of (X := Bx P w K mg base ["mast", "x", "y", "handicap"] "plane_by" (defScope s_plane_by) t.a_plane_by cdv A outer s H E) rfl
    exact s_cons (s_asg (v 0) (g_tup (n := 3) rfl (gs_cons (gn 1 sc_plane_by.nd) (gs_cons (gn 2 sc_plane_by.nd) (gs_cons (gn 3 sc_plane_by.nd) gs_nil)))))
      (s_one (s_ret (d_tup (a_cons (cl t.C_product (ok_product t) hgd hr tk (a_cons ((gtup t.g_TWO)) (a_cons (v 1) a_nil))) (a_cons (cl t.C_product (ok_product t) hgd hr tk (a_cons ((gtup t.g_TWO)) (a_cons (v 2) a_nil))) (a_cons (cl t.C_opposite (ok_opposite t) hgd hr tk (a_cons (cl t.C_plus (ok_plus t) hgd hr tk (a_cons (cl t.C_square_of (ok_square_of t) hgd hr tk (a_cons (v 1) (a_cons (v 2) a_nil))) (a_cons (v 3) a_nil))) a_nil)) a_nil))))))
theorem ok_removal_by (t : Tx K mg) : FnD P w ⟨K, lt⟩ T mg base 4 t.a_removal_by t.d_removal_by ["mast", "place"] f_removal_by := fnD_mk (k := 3) t.F_removal_by sc_removal_by fun cdv A outer s H E B hgd hr => by
    have tk := takes_of (X := Bx P w K mg base ["mast", "place", "x", "y", "handicap"] "removal_by" (defScope s_removal_by) t.a_removal_by cdv A outer s H E) rfl rfl rfl rfl
    have hp := passes_of (X := Bx P w K mg base ["mast", "place", "x", "y", "handicap"] "removal_by" (defScope s_removal_by) t.a_removal_by cdv A outer s H E) rfl
    exact s_cons (s_asg (v 0) (g_tup (n := 3) rfl (gs_cons (gn 2 sc_removal_by.nd) (gs_cons (gn 3 sc_removal_by.nd) (gs_cons (gn 4 sc_removal_by.nd) gs_nil)))))
      (s_one (s_ret (cl t.C_plus (ok_plus t) hgd hr tk (a_cons (cl t.C_square_of (ok_square_of t) hgd hr tk (a_cons (cl t.C_minus (ok_minus t) hgd hr tk (a_cons (d_subs (u 1) (p_of d_int)) (a_cons (v 2) a_nil))) (a_cons (cl t.C_minus (ok_minus t) hgd hr tk (a_cons (d_subs (u 1) (p_of d_int)) (a_cons (v 3) a_nil))) a_nil))) (a_cons (v 4) a_nil)))))
theorem ok_nearest_by (t : Tx K mg) : FnD P w ⟨K, lt⟩ T mg base 5 t.a_nearest_by t.d_nearest_by ["masts", "place"] f_nearest_by := fnD_mk (k := 4) t.F_nearest_by sc_nearest_by fun cdv A outer s H E B hgd hr => by
    have tk := takes_of (X := Bx P w K mg base ["masts", "place", "some", "best", "mast", "at", "one"] "nearest_by" (defScope s_nearest_by) t.a_nearest_by cdv A outer s H E) rfl rfl rfl rfl
    have hp := passes_of (X := Bx P w K mg base ["masts", "place", "some", "best", "mast", "at", "one"] "nearest_by" (defScope s_nearest_by) t.a_nearest_by cdv A outer s H E) rfl
    exact s_cons (scomp 2 (own := [("mast", 4)]) sc_nearest_by.nd (i_seq (v 0)) (fun _ _ _ _ _ => cn 4 sc_nearest_by.nd) (fun _ _ _ _ _ => ts_nil) (fun _ _ _ _ _ => cl t.C_removal_by (ok_removal_by t) hgd hr takes0 (a_cons (v 4) (a_cons (vc 1) a_nil))))
      (s_cons (ssetc 3 sc_nearest_by.nd (cl t.C_least (ok_least t) hgd hr tk (a_cons (v 2) a_nil)))
      (s_one (s_ret (d_frz (fcomp (own := [("at", 5), ("one", 6)]) sc_nearest_by.nd (i_enum (by unfold Gl; kernel_rfl) t.z_enumerate (a_cons (v 2) a_nil)) (fun _ _ _ _ _ => c_tup (n := 2) rfl (cs_cons (cn 5 sc_nearest_by.nd) (cs_cons (cn 6 sc_nearest_by.nd) cs_nil))) (fun _ _ _ _ _ => ts_one (b_not (b_test (p_of (cl t.C_is_less (ok_is_less t) hgd hr takes0 (a_cons (vc 3) (a_cons (v 6) a_nil))))))) (fun _ _ _ _ _ => v 5))))))
theorem ok_are_masts (t : Tx K mg) : FnD P w ⟨K, lt⟩ T mg base 5 t.a_are_masts t.d_are_masts ["value"] f_are_masts := fnD_mk (k := 4) t.F_are_masts sc_are_masts fun cdv A outer s H E B hgd hr => by
    have tk := takes_of (X := Bx P w K mg base ["value"] "are_masts" (defScope s_are_masts) t.a_are_masts cdv A outer s H E) rfl rfl rfl rfl
    have hp := passes_of (X := Bx P w K mg base ["value"] "are_masts" (defScope s_are_masts) t.a_are_masts cdv A outer s H E) rfl
    exact s_one (s_ret (cl t.C_are_masts_of (ok_are_masts_of t) hgd hr tk (a_cons (v 0) a_nil)))
theorem ok_removal (t : Tx K mg) : FnD P w ⟨K, lt⟩ T mg base 6 t.a_removal t.d_removal ["masts", "mast", "place"] f_removal := fnD_mk (k := 5) t.F_removal sc_removal fun cdv A outer s H E B hgd hr => by
    have tk := takes_of (X := Bx P w K mg base ["masts", "mast", "place"] "removal" (defScope s_removal) t.a_removal cdv A outer s H E) rfl rfl rfl rfl
    have hp := passes_of (X := Bx P w K mg base ["masts", "mast", "place"] "removal" (defScope s_removal) t.a_removal cdv A outer s H E) rfl
    exact s_cons (s_expr (cl t.C_want_masts (ok_want_masts t) hgd hr tk (a_cons (v 0) a_nil)))
      (s_cons (s_expr (cl t.C_want_mast (ok_want_mast t) hgd hr tk (a_cons (v 0) (a_cons (v 1) a_nil))))
      (s_one (s_ret (cl t.C_shown (ok_shown t) hgd hr tk (a_cons (cl t.C_removal_by (ok_removal_by t) hgd hr tk (a_cons (d_subs (u 0) (u 1)) (a_cons (cl t.C_want_place (ok_want_place t) hgd hr tk (a_cons (v 2) a_nil)) a_nil))) a_nil)))))
theorem ok_nearest (t : Tx K mg) : FnD P w ⟨K, lt⟩ T mg base 6 t.a_nearest t.d_nearest ["masts", "place"] f_nearest := fnD_mk (k := 5) t.F_nearest sc_nearest fun cdv A outer s H E B hgd hr => by
    have tk := takes_of (X := Bx P w K mg base ["masts", "place"] "nearest" (defScope s_nearest) t.a_nearest cdv A outer s H E) rfl rfl rfl rfl
    have hp := passes_of (X := Bx P w K mg base ["masts", "place"] "nearest" (defScope s_nearest) t.a_nearest cdv A outer s H E) rfl
    exact s_cons (s_expr (cl t.C_want_masts (ok_want_masts t) hgd hr tk (a_cons (v 0) a_nil)))
      (s_one (s_ret (cl t.C_nearest_by (ok_nearest_by t) hgd hr tk (a_cons (v 0) (a_cons (cl t.C_want_place (ok_want_place t) hgd hr tk (a_cons (v 1) a_nil)) a_nil)))))
theorem ok_mast_plane (t : Tx K mg) : FnD P w ⟨K, lt⟩ T mg base 6 t.a_mast_plane t.d_mast_plane ["masts", "mast"] f_mast_plane := fnD_mk (k := 5) t.F_mast_plane sc_mast_plane fun cdv A outer s H E B hgd hr => by
    have tk := takes_of (X := Bx P w K mg base ["masts", "mast", "part"] "mast_plane" (defScope s_mast_plane) t.a_mast_plane cdv A outer s H E) rfl rfl rfl rfl
    have hp := passes_of (X := Bx P w K mg base ["masts", "mast", "part"] "mast_plane" (defScope s_mast_plane) t.a_mast_plane cdv A outer s H E) rfl
    exact s_cons (s_expr (cl t.C_want_masts (ok_want_masts t) hgd hr tk (a_cons (v 0) a_nil)))
      (s_cons (s_expr (cl t.C_want_mast (ok_want_mast t) hgd hr tk (a_cons (v 0) (a_cons (v 1) a_nil))))
      (s_one (s_ret (x_tuple t.z_tuple (p_of (d_frz (fcomp (own := [("part", 2)]) sc_mast_plane.nd (i_seq (cl t.C_plane_by (ok_plane_by t) hgd hr tk (a_cons (d_subs (u 0) (u 1)) a_nil))) (fun _ _ _ _ _ => cn 2 sc_mast_plane.nd) (fun _ _ _ _ _ => ts_nil) (fun _ _ _ _ _ => cl t.C_shown (ok_shown t) hgd hr takes0 (a_cons (v 2) a_nil)))))))))
theorem ok_law_pot (t : Tx K mg) : FnD P w ⟨K, lt⟩ T mg base 1 t.a_law_pot t.d_law_pot ["script", "k"] f_law_pot := fnD_mk (k := 0) t.F_law_pot sc_law_pot fun cdv A outer s H E B hgd hr => by
    have tk := takes_of (X := Bx P w K mg base ["script", "k", "cell"] "_law_pot" (defScope s_law_pot) t.a_law_pot cdv A outer s H E) rfl rfl rfl rfl
    have hp := passes_of (X := Bx P w K mg base ["script", "k", "cell"] "_law_pot" (defScope s_law_pot) t.a_law_pot cdv A outer s H E) rfl
    exact s_cons (sset 2 sc_law_pot.nd (d_if (kB o_lt (u 1) (p_of (x_len t.z_len (u 0)))) (x_abs t.z_abs (p_of (d_subs (u 0) (u 1)))) (d_bin o_cat (p_of (d_bin o_rep (p_of d_int) (u 1))) (p_of d_int))))
      (s_one (s_ret (d_ref (f_lst (a_cons (x_max t.z_max (p_of d_int) (p_of (d_bin o_sub (u 2) (p_of (d_bin o_pow (p_of d_int) (p_of d_int)))))) (a_cons (d_bin o_cat (p_of (d_bin o_mod (p_of (x_int t.z_int (p_of (d_bin o_cat (p_of (d_bin o_cat (p_of (d_bin o_rep (p_of (d_bin o_mod (p_of (x_int t.z_int (u 2))) (p_of d_int))) (p_of d_int))) (p_of (d_bin o_rep (p_of d_int) (u 1))))) (p_of d_int))))) (p_of d_int))) (p_of d_int)) a_nil))))))
theorem ok_law_draw (t : Tx K mg) : FnD P w ⟨K, lt⟩ T mg base 1 t.a_law_draw t.d_law_draw ["pot", "many"] f_law_draw := fnD_mk (k := 0) t.F_law_draw sc_law_draw fun cdv A outer s H E B hgd hr => by
    have tk := takes_of (X := Bx P w K mg base ["pot", "many", "digit"] "_law_draw" (defScope s_law_draw) t.a_law_draw cdv A outer s H E) rfl rfl rfl rfl
    have hp := passes_of (X := Bx P w K mg base ["pot", "many", "digit"] "_law_draw" (defScope s_law_draw) t.a_law_draw cdv A outer s H E) rfl
    exact s_cons (s_if (kB o_gt (p_of (d_subs (u 0) (p_of d_int))) (p_of d_int)) (s_cons (s_asg (x_divmod t.z_divmod (p_of (d_subs (u 0) (p_of d_int))) (u 1)) (g_tup (n := 2) rfl (gs_cons (g_sub (u 0) (p_of d_int)) (gs_cons (gn 2 sc_law_draw.nd) gs_nil))))
      (s_one (s_ret (v 2)))) s_nil)
      (s_cons (s_asg (d_bin o_mod (p_of (x_int t.z_int (p_of (d_bin o_cat (p_of (d_bin o_rep (p_of (d_subs (u 0) (p_of d_int))) (p_of d_int))) (p_of d_int))))) (p_of d_int)) (g_sub (u 0) (p_of d_int)))
      (s_one (s_ret (d_bin o_mod (p_of (x_int t.z_int (p_of (d_bin o_fdiv (p_of (d_bin o_mod (p_of (x_int t.z_int (p_of (d_bin o_rep (p_of (d_subs (u 0) (p_of d_int))) (p_of (d_subs (u 0) (p_of d_int))))))) (p_of d_int))) (p_of d_int))))) (u 1)))))
theorem ok_law_pick (t : Tx K mg) : FnD P w ⟨K, lt⟩ T mg base 2 t.a_law_pick t.d_law_pick ["pot", "some"] f_law_pick := fnD_mk (k := 1) t.F_law_pick sc_law_pick fun cdv A outer s H E B hgd hr => by
    have tk := takes_of (X := Bx P w K mg base ["pot", "some"] "_law_pick" (defScope s_law_pick) t.a_law_pick cdv A outer s H E) rfl rfl rfl rfl
    have hp := passes_of (X := Bx P w K mg base ["pot", "some"] "_law_pick" (defScope s_law_pick) t.a_law_pick cdv A outer s H E) rfl
    exact s_one (s_ret (d_subs (u 1) (p_of (cl t.C_law_draw (ok_law_draw t) hgd hr tk (a_cons (v 0) (a_cons (x_len t.z_len (u 1)) a_nil))))))
theorem ok_law_low (t : Tx K mg) : FnD P w ⟨K, lt⟩ T mg base 1 t.a_law_low t.d_law_low ["number", "under"] f_law_low := fnD_mk (k := 0) t.F_law_low sc_law_low fun cdv A outer s H E B hgd hr => by
    have tk := takes_of (X := Bx P w K mg base ["number", "under", "near", "far"] "_law_low" (defScope s_law_low) t.a_law_low cdv A outer s H E) rfl rfl rfl rfl
    have hp := passes_of (X := Bx P w K mg base ["number", "under", "near", "far"] "_law_low" (defScope s_law_low) t.a_law_low cdv A outer s H E) rfl
    exact s_cons (s_par2 (i := 2) (j := 3) rfl sc_law_low.nd (by kernel_rfl) (by kernel_rfl) (by decide) (by kernel_rfl) (by kernel_rfl) (a_cons (x_abs t.z_abs (u 0)) (a_cons (v 1) a_nil)) (by rfl))
      (s_cons (s_while hp (kB o_gt (u 3) (p_of d_int)) (s_one (s_par2 (i := 2) (j := 3) rfl sc_law_low.nd (by kernel_rfl) (by kernel_rfl) (by decide) (by kernel_rfl) (by kernel_rfl) (a_cons (v 3) (a_cons (d_bin o_mod (p_of (x_int t.z_int (u 2))) (u 3)) a_nil)) (by rfl))))
      (s_one (s_ret (d_tup (a_cons (d_bin o_fdiv (u 0) (u 2)) (a_cons (d_bin o_fdiv (u 1) (u 2)) a_nil))))))
theorem ok_law_plus (t : Tx K mg) : FnD P w ⟨K, lt⟩ T mg base 2 t.a_law_plus t.d_law_plus ["one", "other"] f_law_plus := fnD_mk (k := 1) t.F_law_plus sc_law_plus fun cdv A outer s H E B hgd hr => by
    have tk := takes_of (X := Bx P w K mg base ["one", "other"] "_law_plus" (defScope s_law_plus) t.a_law_plus cdv A outer s H E) rfl rfl rfl rfl
    have hp := passes_of (X := Bx P w K mg base ["one", "other"] "_law_plus" (defScope s_law_plus) t.a_law_plus cdv A outer s H E) rfl
    exact s_one (s_ret (cl t.C_law_low (ok_law_low t) hgd hr tk (a_cons (d_bin o_cat (p_of (d_bin o_rep (p_of (d_subs (u 0) (p_of d_int))) (p_of (d_subs (u 1) (p_of d_int))))) (p_of (d_bin o_rep (p_of (d_subs (u 1) (p_of d_int))) (p_of (d_subs (u 0) (p_of d_int)))))) (a_cons (d_bin o_rep (p_of (d_subs (u 0) (p_of d_int))) (p_of (d_subs (u 1) (p_of d_int)))) a_nil))))
theorem ok_law_minus (t : Tx K mg) : FnD P w ⟨K, lt⟩ T mg base 2 t.a_law_minus t.d_law_minus ["one", "other"] f_law_minus := fnD_mk (k := 1) t.F_law_minus sc_law_minus fun cdv A outer s H E B hgd hr => by
    have tk := takes_of (X := Bx P w K mg base ["one", "other"] "_law_minus" (defScope s_law_minus) t.a_law_minus cdv A outer s H E) rfl rfl rfl rfl
    have hp := passes_of (X := Bx P w K mg base ["one", "other"] "_law_minus" (defScope s_law_minus) t.a_law_minus cdv A outer s H E) rfl
    exact s_one (s_ret (cl t.C_law_low (ok_law_low t) hgd hr tk (a_cons (d_bin o_sub (p_of (d_bin o_rep (p_of (d_subs (u 0) (p_of d_int))) (p_of (d_subs (u 1) (p_of d_int))))) (p_of (d_bin o_rep (p_of (d_subs (u 1) (p_of d_int))) (p_of (d_subs (u 0) (p_of d_int)))))) (a_cons (d_bin o_rep (p_of (d_subs (u 0) (p_of d_int))) (p_of (d_subs (u 1) (p_of d_int)))) a_nil))))
theorem ok_law_times (t : Tx K mg) : FnD P w ⟨K, lt⟩ T mg base 2 t.a_law_times t.d_law_times ["one", "other"] f_law_times := fnD_mk (k := 1) t.F_law_times sc_law_times fun cdv A outer s H E B hgd hr => by
    have tk := takes_of (X := Bx P w K mg base ["one", "other"] "_law_times" (defScope s_law_times) t.a_law_times cdv A outer s H E) rfl rfl rfl rfl
    have hp := passes_of (X := Bx P w K mg base ["one", "other"] "_law_times" (defScope s_law_times) t.a_law_times cdv A outer s H E) rfl
    exact s_one (s_ret (cl t.C_law_low (ok_law_low t) hgd hr tk (a_cons (d_bin o_rep (p_of (d_subs (u 0) (p_of d_int))) (p_of (d_subs (u 1) (p_of d_int)))) (a_cons (d_bin o_rep (p_of (d_subs (u 0) (p_of d_int))) (p_of (d_subs (u 1) (p_of d_int)))) a_nil))))
theorem ok_law_less (t : Tx K mg) : FnD P w ⟨K, lt⟩ T mg base 1 t.a_law_less t.d_law_less ["one", "other"] f_law_less := fnD_mk (k := 0) t.F_law_less sc_law_less fun cdv A outer s H E B hgd hr => by
    have tk := takes_of (X := Bx P w K mg base ["one", "other"] "_law_less" (defScope s_law_less) t.a_law_less cdv A outer s H E) rfl rfl rfl rfl
    have hp := passes_of (X := Bx P w K mg base ["one", "other"] "_law_less" (defScope s_law_less) t.a_law_less cdv A outer s H E) rfl
    exact s_one (s_ret (kD o_lt (p_of (d_bin o_rep (p_of (d_subs (u 0) (p_of d_int))) (p_of (d_subs (u 1) (p_of d_int))))) (p_of (d_bin o_rep (p_of (d_subs (u 1) (p_of d_int))) (p_of (d_subs (u 0) (p_of d_int)))))))
theorem ok_law_is_ratio (t : Tx K mg) : FnD P w ⟨K, lt⟩ T mg base 2 t.a_law_is_ratio t.d_law_is_ratio ["value"] f_law_is_ratio := fnD_mk (k := 1) t.F_law_is_ratio sc_law_is_ratio fun cdv A outer s H E B hgd hr => by
    have tk := takes_of (X := Bx P w K mg base ["value", "one"] "_law_is_ratio" (defScope s_law_is_ratio) t.a_law_is_ratio cdv A outer s H E) rfl rfl rfl rfl
    have hp := passes_of (X := Bx P w K mg base ["value", "one"] "_law_is_ratio" (defScope s_law_is_ratio) t.a_law_is_ratio cdv A outer s H E) rfl
    exact s_cons (s_if ((b_or (b_not (b_test (p_of (x_isi .tuple "tuple" t.z_isinstance t.z_tuple bb_tuple (u 0))))) (b_or1 (kB (o_ne (hu64_of hr)) (p_of (x_len t.z_len (u 0))) (p_of d_int)))).pt) (s_one (s_ret d_bl)) s_nil)
      (s_cons (s_if (b_not (b_test (p_of (x_all t.z_all (p_of (d_frz (fcomp (own := [("one", 1)]) sc_law_is_ratio.nd (i_seq (v 0)) (fun _ _ _ _ _ => cn 1 sc_law_is_ratio.nd) (fun _ _ _ _ _ => ts_nil) (fun _ _ _ _ _ => d_and (x_isi .int "int" t.z_isinstance t.z_int bb_int (u 1)) (d_one (d_not (p_of (x_isi .bool "bool" t.z_isinstance t.z_bool bb_bool (u 1))))))))))))) (s_one (s_ret d_bl)) s_nil)
      (s_one (s_ret (d_and (kD o_gt (p_of (d_subs (u 0) (p_of d_int))) (p_of d_int)) (d_one (kD (o_eq (hu64_of hr)) (p_of (cl t.C_law_low (ok_law_low t) hgd hr tk (a_cons (d_subs (u 0) (p_of d_int)) (a_cons (d_subs (u 0) (p_of d_int)) a_nil)))) (u 0)))))))
theorem ok_law_removal (t : Tx K mg) : FnD P w ⟨K, lt⟩ T mg base 3 t.a_law_removal t.d_law_removal ["mast", "place"] f_law_removal := fnD_mk (k := 2) t.F_law_removal sc_law_removal fun cdv A outer s H E B hgd hr => by
    have tk := takes_of (X := Bx P w K mg base ["mast", "place", "x", "y"] "_law_removal" (defScope s_law_removal) t.a_law_removal cdv A outer s H E) rfl rfl rfl rfl
    have hp := passes_of (X := Bx P w K mg base ["mast", "place", "x", "y"] "_law_removal" (defScope s_law_removal) t.a_law_removal cdv A outer s H E) rfl
    exact s_cons (s_par2 (i := 2) (j := 3) rfl sc_law_removal.nd (by kernel_rfl) (by kernel_rfl) (by decide) (by kernel_rfl) (by kernel_rfl) (a_cons (cl t.C_law_minus (ok_law_minus t) hgd hr tk (a_cons (d_subs (u 1) (p_of d_int)) (a_cons (d_subs (u 0) (p_of d_int)) a_nil))) (a_cons (cl t.C_law_minus (ok_law_minus t) hgd hr tk (a_cons (d_subs (u 1) (p_of d_int)) (a_cons (d_subs (u 0) (p_of d_int)) a_nil))) a_nil)) (by rfl))
      (s_one (s_ret (cl t.C_law_plus (ok_law_plus t) hgd hr tk (a_cons (cl t.C_law_plus (ok_law_plus t) hgd hr tk (a_cons (cl t.C_law_times (ok_law_times t) hgd hr tk (a_cons (v 2) (a_cons (v 2) a_nil))) (a_cons (cl t.C_law_times (ok_law_times t) hgd hr tk (a_cons (v 3) (a_cons (v 3) a_nil))) a_nil))) (a_cons (d_subs (u 0) (p_of d_int)) a_nil)))))
theorem ok_law_nearest (t : Tx K mg) : FnD P w ⟨K, lt⟩ T mg base 4 t.a_law_nearest t.d_law_nearest ["masts", "place"] f_law_nearest := fnD_mk (k := 3) t.F_law_nearest sc_law_nearest fun cdv A outer s H E B hgd hr => by
    have tk := takes_of (X := Bx P w K mg base ["masts", "place", "some", "mast", "at", "one", "other"] "_law_nearest" (defScope s_law_nearest) t.a_law_nearest cdv A outer s H E) rfl rfl rfl rfl
    have hp := passes_of (X := Bx P w K mg base ["masts", "place", "some", "mast", "at", "one", "other"] "_law_nearest" (defScope s_law_nearest) t.a_law_nearest cdv A outer s H E) rfl
    exact s_cons (ssetc 2 sc_law_nearest.nd (d_frz (fcomp (own := [("mast", 3)]) sc_law_nearest.nd (i_seq (v 0)) (fun _ _ _ _ _ => cn 3 sc_law_nearest.nd) (fun _ _ _ _ _ => ts_nil) (fun _ _ _ _ _ => cl t.C_law_removal (ok_law_removal t) hgd hr takes0 (a_cons (v 3) (a_cons (vc 1) a_nil))))))
      (s_one (s_ret (d_frz (fcomp (own := [("at", 4), ("one", 5)]) sc_law_nearest.nd (i_enum (by unfold Gl; kernel_rfl) t.z_enumerate (a_cons (vc 2) a_nil)) (fun _ _ _ _ _ => c_tup (n := 2) rfl (cs_cons (cn 4 sc_law_nearest.nd) (cs_cons (cnc 5 sc_law_nearest.nd) cs_nil))) (fun _ _ _ _ _ => ts_one (b_not (b_test (p_of (x_any t.z_any (p_of (d_frz (fcomp (own := [("other", 6)]) sc_law_nearest.nd (i_seq (vc 2)) (fun _ _ _ _ _ => cn 6 sc_law_nearest.nd) (fun _ _ _ _ _ => ts_nil) (fun _ _ _ _ _ => cl t.C_law_less (ok_law_less t) hgd hr takes0 (a_cons (v 6) (a_cons (vc 5) a_nil))))))))))) (fun _ _ _ _ _ => v 4)))))
theorem ok_law_draw_ratio (t : Tx K mg) : FnD P w ⟨K, lt⟩ T mg base 3 t.a_law_draw_ratio t.d_law_draw_ratio ["pot", "top"] f_law_draw_ratio := fnD_mk (k := 2) t.F_law_draw_ratio sc_law_draw_ratio fun cdv A outer s H E B hgd hr => by
    have tk := takes_of (X := Bx P w K mg base ["pot", "top"] "_law_draw_ratio" (defScope s_law_draw_ratio) t.a_law_draw_ratio cdv A outer s H E) rfl rfl rfl rfl
    have hp := passes_of (X := Bx P w K mg base ["pot", "top"] "_law_draw_ratio" (defScope s_law_draw_ratio) t.a_law_draw_ratio cdv A outer s H E) rfl
    exact s_one (s_ret (cl t.C_law_low (ok_law_low t) hgd hr tk (a_cons (d_bin o_sub (p_of (cl t.C_law_draw (ok_law_draw t) hgd hr tk (a_cons (v 0) (a_cons (d_bin o_cat (p_of (d_bin o_rep (p_of d_int) (u 1))) (p_of d_int)) a_nil)))) (u 1)) (a_cons (cl t.C_law_pick (ok_law_pick t) hgd hr tk (a_cons (v 0) (a_cons (d_frz (f_lst (a_cons d_int (a_cons d_int (a_cons d_int (a_cons d_int (a_cons d_int a_nil))))))) a_nil))) a_nil))))
theorem ok_law_masts (t : Tx K mg) : FnD P w ⟨K, lt⟩ T mg base 4 t.a_law_masts t.d_law_masts ["pot", "most", "top"] f_law_masts := fnD_mk (k := 3) t.F_law_masts sc_law_masts fun cdv A outer s H E B hgd hr => by
    have tk := takes_of (X := Bx P w K mg base ["pot", "most", "top", "found", "turn", "mast"] "_law_masts" (defScope s_law_masts) t.a_law_masts cdv A outer s H E) rfl rfl rfl rfl
    have hp := passes_of (X := Bx P w K mg base ["pot", "most", "top", "found", "turn", "mast"] "_law_masts" (defScope s_law_masts) t.a_law_masts cdv A outer s H E) rfl
    exact s_cons (sown 3 sc_law_masts.nd (f_lst a_nil))
      (s_cons (s_for hp rfl (i_range1 (by unfold Gl; kernel_rfl) t.z_range (a_cons (d_bin o_cat (p_of d_int) (p_of (cl t.C_law_draw (ok_law_draw t) hgd hr tk (a_cons (v 0) (a_cons (v 1) a_nil))))) a_nil)) (gn 4 sc_law_masts.nd) (s_cons (sset 5 sc_law_masts.nd (d_tup (a_cons (cl t.C_law_draw_ratio (ok_law_draw_ratio t) hgd hr tk (a_cons (v 0) (a_cons (v 2) a_nil))) (a_cons (cl t.C_law_draw_ratio (ok_law_draw_ratio t) hgd hr tk (a_cons (v 0) (a_cons (v 2) a_nil))) (a_cons (cl t.C_law_low (ok_law_low t) hgd hr tk (a_cons (cl t.C_law_draw (ok_law_draw t) hgd hr tk (a_cons (v 0) (a_cons (cl t.C_law_pick (ok_law_pick t) hgd hr tk (a_cons (v 0) (a_cons (d_frz (f_lst (a_cons d_int (a_cons d_int (a_cons d_int a_nil))))) a_nil))) a_nil))) (a_cons d_int a_nil))) a_nil)))))
      (s_one (sext 3 (d_if (kB (o_nin (hu65_of hr)) (u 5) (u 3)) (d_frz (f_lst (a_cons (v 5) a_nil))) (d_frz (f_lst a_nil)))))))
      (s_one (s_ret (x_tuple t.z_tuple (u 3)))))
theorem ok_law_bent (t : Tx K mg) : ∀ j : Nat, FnD P w ⟨K, lt⟩ T mg base (3 + j) t.a_law_bent t.d_law_bent ["pot", "value"] (f_law_bent j)
  | 0 => fnD_stk
  | j + 1 => fnD_mk (k := 3 + j) t.F_law_bent sc_law_bent fun cdv A outer s H E B hgd hr => by
    have ih := ok_law_bent t j
    have tk := takes_of (X := Bx P w K mg base ["pot", "value", "number", "under", "some", "at", "way", "one"] "_law_bent" (defScope s_law_bent) t.a_law_bent cdv A outer s H E) rfl rfl rfl rfl
    have hp := passes_of (X := Bx P w K mg base ["pot", "value", "number", "under", "some", "at", "way", "one"] "_law_bent" (defScope s_law_bent) t.a_law_bent cdv A outer s H E) rfl
    exact s_cons (s_if ((b_and (b_test (p_of (x_isi .tuple "tuple" t.z_isinstance t.z_tuple bb_tuple (u 1)))) (b_and (kB (o_eq (hu64_of hr)) (p_of (x_len t.z_len (u 1))) (p_of d_int)) (b_and (b_test (p_of (x_all t.z_all (p_of (d_frz (fcomp (own := [("one", 7)]) sc_law_bent.nd (i_seq (v 1)) (fun _ _ _ _ _ => cn 7 sc_law_bent.nd) (fun _ _ _ _ _ => ts_nil) (fun _ _ _ _ _ => x_isi .int "int" t.z_isinstance t.z_int bb_int (u 7)))))))) (b_and1 (kB o_gt (p_of (cl (hj := by omega) t.C_law_draw (ok_law_draw t) hgd hr tk (a_cons (v 0) (a_cons d_int a_nil)))) (p_of d_int)))))).pt) (s_cons (s_asg (v 1) (g_tup (n := 2) rfl (gs_cons (gn 2 sc_law_bent.nd) (gs_cons (gn 3 sc_law_bent.nd) gs_nil))))
      (s_cons (sset 4 sc_law_bent.nd (d_frz (f_lst (a_cons (d_tup (a_cons (d_bin o_cat (u 2) (p_of d_int)) (a_cons (v 3) a_nil))) (a_cons (d_tup (a_cons (d_bin o_sub (u 2) (p_of d_int)) (a_cons (v 3) a_nil))) (a_cons (d_tup (a_cons (d_bin o_rep (p_of d_int) (u 2)) (a_cons (d_bin o_rep (p_of d_int) (u 3)) a_nil))) (a_cons (d_tup (a_cons (v 2) (a_cons d_int a_nil))) (a_cons (d_tup (a_cons (d_bin o_sub (p_of d_int) (u 2)) (a_cons (v 3) a_nil))) (a_cons d_non a_nil)))))))))
      (s_one (s_ret (cl (hj := by omega) t.C_law_pick (ok_law_pick t) hgd hr tk (a_cons (v 0) (a_cons (d_bin o_cat (u 4) (p_of (d_frz (f_lst (a_cons (cl (hj := by omega) t.C_law_low (ok_law_low t) hgd hr tk (a_cons (d_bin o_cat (p_of (d_bin o_rep (p_of d_int) (u 2))) (p_of d_int)) (a_cons (d_bin o_rep (p_of d_int) (p_of (x_max t.z_max (p_of d_int) (u 3)))) a_nil))) (a_cons (d_frz (f_lst (a_cons (v 2) (a_cons (v 3) a_nil)))) (a_cons (d_tup (a_cons (v 2) (a_cons (v 3) (a_cons d_int a_nil)))) (a_cons (d_tup (a_cons d_bl (a_cons (v 3) a_nil))) a_nil)))))))) a_nil))))))) s_nil)
      (s_cons (s_if ((b_and (b_test (p_of (x_isi .tuple "tuple" t.z_isinstance t.z_tuple bb_tuple (u 1)))) (b_and (kB o_gt (p_of (x_len t.z_len (u 1))) (p_of d_int)) (b_and1 (kB o_gt (p_of (cl (hj := by omega) t.C_law_draw (ok_law_draw t) hgd hr tk (a_cons (v 0) (a_cons d_int a_nil)))) (p_of d_int))))).pt) (s_cons (s_par2 (i := 5) (j := 6) rfl sc_law_bent.nd (by kernel_rfl) (by kernel_rfl) (by decide) (by kernel_rfl) (by kernel_rfl) (a_cons (cl (hj := by omega) t.C_law_draw (ok_law_draw t) hgd hr tk (a_cons (v 0) (a_cons (x_len t.z_len (u 1)) a_nil))) (a_cons (cl (hj := by omega) t.C_law_draw (ok_law_draw t) hgd hr tk (a_cons (v 0) (a_cons d_int a_nil))) a_nil)) (by rfl))
      (s_cons (s_if (kB (o_eq (hu64_of hr)) (u 6) (p_of d_int)) (s_one (s_ret (d_bin o_cat (p_of (d_slice (u 1) po_no (po_so (u 5)))) (p_of (d_slice (u 1) (po_so (p_of (d_bin o_cat (u 5) (p_of d_int)))) po_no))))) s_nil)
      (s_cons (s_if (kB (o_eq (hu64_of hr)) (u 6) (p_of d_int)) (s_one (s_ret (d_bin o_cat (p_of (d_slice (u 1) po_no (po_so (p_of (d_bin o_cat (u 5) (p_of d_int)))))) (p_of (d_slice (u 1) (po_so (u 5)) po_no))))) s_nil)
      (s_one (s_ret (d_if (kB (o_eq (hu64_of hr)) (u 6) (p_of d_int)) (d_revA (u 1)) (d_bin o_cat (p_of (d_bin o_cat (p_of (d_slice (u 1) po_no (po_so (u 5)))) (p_of (d_tup (a_cons (cl (hj := by omega) t.C_law_bent ih hgd hr tk (a_cons (v 0) (a_cons (d_subs (u 1) (u 5)) a_nil))) a_nil))))) (p_of (d_slice (u 1) (po_so (p_of (d_bin o_cat (u 5) (p_of d_int)))) po_no))))))))) s_nil)
      (s_cons (s_if (b_test (p_of (x_isi .int "int" t.z_isinstance t.z_int bb_int (u 1)))) (s_one (s_ret (cl (hj := by omega) t.C_law_pick (ok_law_pick t) hgd hr tk (a_cons (v 0) (a_cons (d_frz (f_lst (a_cons (d_bin o_cat (u 1) (p_of d_int)) (a_cons (d_bin o_sub (u 1) (p_of d_int)) (a_cons d_bl (a_cons d_non (a_cons d_int (a_cons d_int (a_cons (d_un o_neg (p_of d_int)) a_nil))))))))) a_nil))))) s_nil)
      (s_one (s_ret (cl (hj := by omega) t.C_law_pick (ok_law_pick t) hgd hr tk (a_cons (v 0) (a_cons (d_frz (f_lst (a_cons d_non (a_cons d_int (a_cons (d_if (b_test (p_of (x_isi .tuple "tuple" t.z_isinstance t.z_tuple bb_tuple (u 1)))) (x_list t.z_list (u 1)) (d_frz (f_lst a_nil))) (a_cons (d_tup a_nil) (a_cons d_str (a_cons d_dct a_nil)))))))) a_nil)))))))
theorem ok_law_are_masts (t : Tx K mg) : FnD P w ⟨K, lt⟩ T mg base 3 t.a_law_are_masts t.d_law_are_masts ["value"] f_law_are_masts := fnD_mk (k := 2) t.F_law_are_masts sc_law_are_masts fun cdv A outer s H E B hgd hr => by
    have tk := takes_of (X := Bx P w K mg base ["value", "one", "part", "at"] "_law_are_masts" (defScope s_law_are_masts) t.a_law_are_masts cdv A outer s H E) rfl rfl rfl rfl
    have hp := passes_of (X := Bx P w K mg base ["value", "one", "part", "at"] "_law_are_masts" (defScope s_law_are_masts) t.a_law_are_masts cdv A outer s H E) rfl
    exact s_cons (s_if ((b_or (b_not (b_test (p_of (x_isi .tuple "tuple" t.z_isinstance t.z_tuple bb_tuple (uc 0))))) (b_or1 (b_not (b_chain o_le o_le (p_of d_int) (p_of (x_len t.z_len (uc 0))) (p_of d_int))))).pt) (s_one (s_ret d_bl)) s_nil)
      (s_cons (s_for hp rfl (i_seq (vc 0)) (gn 1 sc_law_are_masts.nd) (s_one (s_if ((b_or (b_not (b_test (p_of (x_isi .tuple "tuple" t.z_isinstance t.z_tuple bb_tuple (u 1))))) (b_or (kB (o_ne (hu64_of hr)) (p_of (x_len t.z_len (u 1))) (p_of d_int)) (b_or1 (b_not (b_test (p_of (x_all t.z_all (p_of (d_frz (fcomp (own := [("part", 2)]) sc_law_are_masts.nd (i_seq (v 1)) (fun _ _ _ _ _ => cn 2 sc_law_are_masts.nd) (fun _ _ _ _ _ => ts_nil) (fun _ _ _ _ _ => cl t.C_law_is_ratio (ok_law_is_ratio t) hgd hr takes0 (a_cons (v 2) a_nil)))))))))))).pt) (s_one (s_ret d_bl)) s_nil)))
      (s_one (s_ret (x_all t.z_all (p_of (d_frz (fcomp (own := [("at", 3), ("one", 1)]) sc_law_are_masts.nd (i_enum (by unfold Gl; kernel_rfl) t.z_enumerate (a_cons (vc 0) a_nil)) (fun _ _ _ _ _ => c_tup (n := 2) rfl (cs_cons (cn 3 sc_law_are_masts.nd) (cs_cons (cn 1 sc_law_are_masts.nd) cs_nil))) (fun _ _ _ _ _ => ts_nil) (fun _ _ _ _ _ => kD (o_nin (hu65_of hr)) (u 1) (p_of (d_slice (uc 0) po_no (po_so (u 3))))))))))))
theorem ok_law_place_right (t : Tx K mg) : FnD P w ⟨K, lt⟩ T mg base 7 t.a_law_place_right t.d_law_place_right ["masts", "place"] f_law_place_right := fnD_mk (k := 6) t.F_law_place_right sc_law_place_right fun cdv A outer s H E B hgd hr => by
    have tk := takes_of (X := Bx P w K mg base ["masts", "place", "due", "at", "mast", "one", "plane", "own", "height"] "_law_place_right" (defScope s_law_place_right) t.a_law_place_right cdv A outer s H E) rfl rfl rfl rfl
    have hp := passes_of (X := Bx P w K mg base ["masts", "place", "due", "at", "mast", "one", "plane", "own", "height"] "_law_place_right" (defScope s_law_place_right) t.a_law_place_right cdv A outer s H E) rfl
    exact s_cons (sset 2 sc_law_place_right.nd (cl t.C_law_nearest (ok_law_nearest t) hgd hr tk (a_cons (v 0) (a_cons (v 1) a_nil))))
      (s_cons (s_if (kB (o_ne (hu64_of hr)) (p_of (x_repr t.z_repr hgd (hu64_of hr) (p_of (d_frz (f_lst (a_cons (cl t.C_nearest (ok_nearest t) hgd hr tk (a_cons (v 0) (a_cons (v 1) a_nil))) (a_cons (clK0 t.C_nearest (ok_nearest t) hgd hr tk t.kb_nearest_0_place_masts (k_cons (v 1) (k_cons (v 0) k_nil))) a_nil))))))) (p_of (x_repr t.z_repr hgd (hu64_of hr) (p_of (d_frz (f_lst (a_cons (v 2) (a_cons (v 2) a_nil)))))))) (s_one (s_ret d_bl)) s_nil)
      (s_cons (s_for hp rfl (i_enum (by unfold Gl; kernel_rfl) t.z_enumerate (a_cons (v 0) a_nil)) (g_tup (n := 2) rfl (gs_cons (gn 3 sc_law_place_right.nd) (gs_cons (gn 4 sc_law_place_right.nd) gs_nil))) (s_cons (s_par2 (i := 5) (j := 6) rfl sc_law_place_right.nd (by kernel_rfl) (by kernel_rfl) (by decide) (by kernel_rfl) (by kernel_rfl) (a_cons (cl t.C_law_removal (ok_law_removal t) hgd hr tk (a_cons (v 4) (a_cons (v 1) a_nil))) (a_cons (cl t.C_mast_plane (ok_mast_plane t) hgd hr tk (a_cons (v 0) (a_cons (v 3) a_nil))) a_nil)) (by rfl))
      (s_cons (s_if (kB (o_ne (hu64_of hr)) (p_of (x_repr t.z_repr hgd (hu64_of hr) (p_of (d_frz (f_lst (a_cons (cl t.C_removal (ok_removal t) hgd hr tk (a_cons (v 0) (a_cons (v 3) (a_cons (v 1) a_nil)))) (a_cons (clK0 t.C_removal (ok_removal t) hgd hr tk t.kb_removal_0_place_mast_masts (k_cons (v 1) (k_cons (v 3) (k_cons (v 0) k_nil)))) a_nil))))))) (p_of (x_repr t.z_repr hgd (hu64_of hr) (p_of (d_frz (f_lst (a_cons (v 5) (a_cons (v 5) a_nil)))))))) (s_one (s_ret d_bl)) s_nil)
      (s_cons (sset 7 sc_law_place_right.nd (cl t.C_law_plus (ok_law_plus t) hgd hr tk (a_cons (cl t.C_law_plus (ok_law_plus t) hgd hr tk (a_cons (cl t.C_law_times (ok_law_times t) hgd hr tk (a_cons (d_subs (u 4) (p_of d_int)) (a_cons (d_subs (u 4) (p_of d_int)) a_nil))) (a_cons (cl t.C_law_times (ok_law_times t) hgd hr tk (a_cons (d_subs (u 4) (p_of d_int)) (a_cons (d_subs (u 4) (p_of d_int)) a_nil))) a_nil))) (a_cons (d_subs (u 4) (p_of d_int)) a_nil))))
      (s_cons (s_if (kB (o_ne (hu64_of hr)) (u 6) (p_of (d_tup (a_cons (cl t.C_law_times (ok_law_times t) hgd hr tk (a_cons (d_tup (a_cons d_int (a_cons d_int a_nil))) (a_cons (d_subs (u 4) (p_of d_int)) a_nil))) (a_cons (cl t.C_law_times (ok_law_times t) hgd hr tk (a_cons (d_tup (a_cons d_int (a_cons d_int a_nil))) (a_cons (d_subs (u 4) (p_of d_int)) a_nil))) (a_cons (d_tup (a_cons (d_bin o_sub (p_of d_int) (p_of (d_subs (u 7) (p_of d_int)))) (a_cons (d_subs (u 7) (p_of d_int)) a_nil))) a_nil)))))) (s_one (s_ret d_bl)) s_nil)
      (s_cons (sset 8 sc_law_place_right.nd (cl t.C_law_plus (ok_law_plus t) hgd hr tk (a_cons (cl t.C_law_plus (ok_law_plus t) hgd hr tk (a_cons (cl t.C_law_times (ok_law_times t) hgd hr tk (a_cons (d_subs (u 6) (p_of d_int)) (a_cons (d_subs (u 1) (p_of d_int)) a_nil))) (a_cons (cl t.C_law_times (ok_law_times t) hgd hr tk (a_cons (d_subs (u 6) (p_of d_int)) (a_cons (d_subs (u 1) (p_of d_int)) a_nil))) a_nil))) (a_cons (d_subs (u 6) (p_of d_int)) a_nil))))
      (s_one (s_if (kB (o_ne (hu64_of hr)) (p_of (cl t.C_law_minus (ok_law_minus t) hgd hr tk (a_cons (cl t.C_law_plus (ok_law_plus t) hgd hr tk (a_cons (cl t.C_law_times (ok_law_times t) hgd hr tk (a_cons (d_subs (u 1) (p_of d_int)) (a_cons (d_subs (u 1) (p_of d_int)) a_nil))) (a_cons (cl t.C_law_times (ok_law_times t) hgd hr tk (a_cons (d_subs (u 1) (p_of d_int)) (a_cons (d_subs (u 1) (p_of d_int)) a_nil))) a_nil))) (a_cons (v 8) a_nil)))) (u 5)) (s_one (s_ret d_bl)) s_nil))))))))
      (s_one (s_ret d_bl))))
theorem ok_law_right (t : Tx K mg) : FnD P w ⟨K, lt⟩ T mg base 44 t.a_law_right t.d_law_right ["pot"] f_law_right := fnD_mk (k := 43) t.F_law_right sc_law_right fun cdv A outer s H E B hgd hr => by
    have tk := takes_of (X := Bx P w K mg base ["pot", "masts", "shown_v", "one", "other", "places", "long", "values", "turn", "value", "due", "place", "at"] "_law_right" (defScope s_law_right) t.a_law_right cdv A outer s H E) rfl rfl rfl rfl
    have hp := passes_of (X := Bx P w K mg base ["pot", "masts", "shown_v", "one", "other", "places", "long", "values", "turn", "value", "due", "place", "at"] "_law_right" (defScope s_law_right) t.a_law_right cdv A outer s H E) rfl
    exact s_cons (ssetc 1 sc_law_right.nd (cl t.C_law_masts (ok_law_masts t) hgd hr tk (a_cons (vc 0) (a_cons d_int (a_cons d_int a_nil)))))
      (s_cons (s_if (kB (o_eq (hu64_of hr)) (p_of (cl t.C_law_draw (ok_law_draw t) hgd hr tk (a_cons (vc 0) (a_cons d_int a_nil)))) (p_of d_int)) (s_one (ssetc 1 sc_law_right.nd (d_bin o_cat (uc 1) (p_of (d_tup (a_cons (d_tup (a_cons (d_subs (p_of (d_subs (uc 1) (p_of d_int))) (p_of d_int)) (a_cons (d_subs (p_of (d_subs (uc 1) (p_of d_int))) (p_of d_int)) (a_cons (cl t.C_law_plus (ok_law_plus t) hgd hr tk (a_cons (d_subs (p_of (d_subs (uc 1) (p_of d_int))) (p_of d_int)) (a_cons (d_tup (a_cons d_int (a_cons d_int a_nil))) a_nil))) a_nil)))) a_nil)))))) s_nil)
      (s_cons (s_par3 (i := 2) (j := 3) (l := 4) rfl sc_law_right.nd (by kernel_rfl) (by kernel_rfl) (by kernel_rfl) (by decide) (by decide) (by decide) (by kernel_rfl) (by kernel_rfl) (by kernel_rfl) (a_cons (x_repr t.z_repr hgd (hu64_of hr) (uc 1)) (a_cons (cl t.C_law_pick (ok_law_pick t) hgd hr tk (a_cons (vc 0) (a_cons (vc 1) a_nil))) (a_cons (cl t.C_law_pick (ok_law_pick t) hgd hr tk (a_cons (vc 0) (a_cons (vc 1) a_nil))) a_nil))) (by rfl))
      (s_cons (scompo 5 (own := [("turn", 8)]) sc_law_right.nd (i_range1 (by unfold Gl; kernel_rfl) t.z_range (a_cons d_int a_nil)) (fun _ _ _ _ _ => cn 8 sc_law_right.nd) (fun _ _ _ _ _ => ts_nil) (fun _ _ _ _ _ => d_tup (a_cons (cl t.C_law_draw_ratio (ok_law_draw_ratio t) hgd hr takes0 (a_cons (vc 0) (a_cons d_int a_nil))) (a_cons (cl t.C_law_draw_ratio (ok_law_draw_ratio t) hgd hr takes0 (a_cons (vc 0) (a_cons d_int a_nil))) a_nil))))
      (s_cons (sapp 5 (d_tup (a_cons (cl t.C_law_times (ok_law_times t) hgd hr tk (a_cons (cl t.C_law_plus (ok_law_plus t) hgd hr tk (a_cons (d_subs (u 3) (p_of d_int)) (a_cons (d_subs (u 4) (p_of d_int)) a_nil))) (a_cons (d_tup (a_cons d_int (a_cons d_int a_nil))) a_nil))) (a_cons (cl t.C_law_times (ok_law_times t) hgd hr tk (a_cons (cl t.C_law_plus (ok_law_plus t) hgd hr tk (a_cons (d_subs (u 3) (p_of d_int)) (a_cons (d_subs (u 4) (p_of d_int)) a_nil))) (a_cons (d_tup (a_cons d_int (a_cons d_int a_nil))) a_nil))) a_nil))))
      (s_cons (sapp 5 (d_tup (a_cons (d_subs (u 3) (p_of d_int)) (a_cons (d_subs (u 3) (p_of d_int)) a_nil))))
      (s_cons (s_if ((b_or (b_not (b_test (p_of (x_all t.z_all (p_of (d_frz (fcomp (own := [("place", 11)]) sc_law_right.nd (i_seq (v 5)) (fun _ _ _ _ _ => cn 11 sc_law_right.nd) (fun _ _ _ _ _ => ts_nil) (fun _ _ _ _ _ => cl t.C_law_place_right (ok_law_place_right t) hgd hr takes0 (a_cons (vc 1) (a_cons (v 11) a_nil)))))))))) (b_or1 (kB (o_ne (hu64_of hr)) (p_of (clK0 t.C_mast_plane (ok_mast_plane t) hgd hr tk t.kb_mast_plane_0_mast_masts (k_cons d_int (k_cons (vc 1) k_nil)))) (p_of (cl t.C_mast_plane (ok_mast_plane t) hgd hr tk (a_cons (vc 1) (a_cons d_int a_nil))))))).pt) (s_one (s_ret d_bl)) s_nil)
      (s_cons (sset 6 sc_law_right.nd (x_tuple t.z_tuple (p_of (d_frz (fcomp (own := [("at", 12)]) sc_law_right.nd (i_range1 (by unfold Gl; kernel_rfl) t.z_range (a_cons d_int a_nil)) (fun _ _ _ _ _ => cn 12 sc_law_right.nd) (fun _ _ _ _ _ => ts_nil) (fun _ _ _ _ _ => d_tup (a_cons (d_tup (a_cons (v 12) (a_cons d_int a_nil))) (a_cons (d_tup (a_cons d_int (a_cons d_int a_nil))) (a_cons (d_tup (a_cons d_int (a_cons d_int a_nil))) a_nil)))))))))
      (s_cons (sown 7 sc_law_right.nd (f_lst (a_cons (vc 1) (a_cons (x_list t.z_list (uc 1)) (a_cons (d_bin o_rep (p_of (d_slice (uc 1) po_no (po_so (p_of d_int)))) (p_of d_int)) (a_cons (d_tup a_nil) (a_cons d_non (a_cons d_int (a_cons d_str (a_cons d_dct (a_cons (d_subs (uc 1) (p_of d_int)) (a_cons (v 6) (a_cons (d_slice (u 6) (po_so (p_of d_int)) po_no) (a_cons (d_bin o_cat (uc 1) (p_of (d_tup (a_cons (d_tup (a_cons d_int (a_cons d_int (a_cons d_int a_nil)))) a_nil)))) a_nil))))))))))))))
      (s_cons (s_for hp rfl (i_range1 (by unfold Gl; kernel_rfl) t.z_range (a_cons d_int a_nil)) (gn 8 sc_law_right.nd) (s_one (sapp 7 (cl t.C_law_bent (ok_law_bent t 40) hgd hr tk (a_cons (vc 0) (a_cons (vc 1) a_nil))))))
      (s_cons (s_for hp rfl (i_seq (v 7)) (gn 9 sc_law_right.nd) (s_cons (sset 10 sc_law_right.nd (cl t.C_law_are_masts (ok_law_are_masts t) hgd hr tk (a_cons (v 9) a_nil)))
      (s_one (s_if (kB (o_ne (hu64_of hr)) (p_of (x_repr t.z_repr hgd (hu64_of hr) (p_of (d_frz (f_lst (a_cons (cl t.C_are_masts (ok_are_masts t) hgd hr tk (a_cons (v 9) a_nil)) (a_cons (clK0 t.C_are_masts (ok_are_masts t) hgd hr tk t.kb_are_masts_0_value (k_cons (v 9) k_nil)) a_nil))))))) (p_of (x_repr t.z_repr hgd (hu64_of hr) (p_of (d_frz (f_lst (a_cons (v 10) (a_cons (v 10) a_nil)))))))) (s_one (s_ret d_bl)) s_nil))))
      (s_one (s_ret (kD (o_eq (hu64_of hr)) (p_of (x_repr t.z_repr hgd (hu64_of hr) (uc 1))) (u 2))))))))))))))
theorem ok_law (t : Tx K mg) : FnD P w ⟨K, lt⟩ T mg base 45 t.a_law t.d_law ["script"] f_law := fnD_mk (k := 44) t.F_law sc_law fun cdv A outer s H E B hgd hr => by
    have tk := takes_of (X := Bx P w K mg base ["script", "k"] "law" (defScope s_law) t.a_law cdv A outer s H E) rfl rfl rfl rfl
    have hp := passes_of (X := Bx P w K mg base ["script", "k"] "law" (defScope s_law) t.a_law cdv A outer s H E) rfl
    exact s_one (s_ret (x_all t.z_all (p_of (d_frz (fcomp (own := [("k", 1)]) sc_law.nd (i_range1 (by unfold Gl; kernel_rfl) t.z_range (a_cons (x_max t.z_max (p_of d_int) (p_of (x_min t.z_min (p_of d_int) (p_of (x_len t.z_len (uc 0)))))) a_nil)) (fun _ _ _ _ _ => cn 1 sc_law.nd) (fun _ _ _ _ _ => ts_nil) (fun _ _ _ _ _ => cl t.C_law_right (ok_law_right t) hgd hr takes0 (a_cons (cl t.C_law_pot (ok_law_pot t) hgd hr takes0 (a_cons (vc 0) (a_cons (v 1) a_nil))) a_nil)))))))
end
end
end K61

set_option linter.all false
set_option maxRecDepth 100000
namespace K61
open Mp
theorem e_is_less {n : Nat} (x y : Rat) (s : S) (hx : Bd n x) (hy : Bd n y) (hn : n ≤ 1000) : f_is_less [rd x, rd y] s = .ok (.bl (decide (x < y))) s := by
  have h1 : mulOk x.num y.den = true := mulOk_of hx.1 hy.den (by omega)
  have h2 : mulOk y.num x.den = true := mulOk_of hy.1 hx.den (by omega)
  simp [f_is_less, m_is_less, rd, at0, at1, h1, h2, Rat.lt_iff, fnM, bnd, Mp.ret, lift, stk, seqS, retS, asgS, dropS, ifS, setv, getv, peekv, op1, op2, ap1, ap2, asB, chain2, testM, truM, truO, andV, orV, notV, ifV, andB, orB, notB, argN, argC, mkTup, mkLst, frzd, callM, onMs, subsO, lenO, absO, isiO, D.tg, isTy, tgtT, tgtC, tgtN, par2, par3, forS, seqI, srcD, catO, addO, subO, repO, mulO, fdivO, modO, negO, ltO, leO, gtO, geO, cmpI, gcdO, maxO, minO, intO, tupleO, listO]
theorem e_fraction (n u : Int) (s : S) (hu : 0 < u) {k : Nat} (h : u.natAbs < 2 ^ k) (hk : k ≤ 9000) : f_fraction [.int n, .int u] s = .ok (rd (Rat.divInt n u)) s := by
  have h1 := low_ok (n := n) hu h hk
  rw [← low_eq hu]
  simp [f_fraction, m_fraction, at0, at1, hu, h1, fnM, bnd, Mp.ret, lift, stk, seqS, retS, asgS, dropS, ifS, setv, getv, peekv, op1, op2, ap1, ap2, asB, chain2, testM, truM, truO, andV, orV, notV, ifV, andB, orB, notB, argN, argC, mkTup, mkLst, frzd, callM, onMs, subsO, lenO, absO, isiO, D.tg, isTy, tgtT, tgtC, tgtN, par2, par3, forS, seqI, srcD, catO, addO, subO, repO, mulO, fdivO, modO, negO, ltO, leO, gtO, geO, cmpI, gcdO, maxO, minO, intO, tupleO, listO]
theorem e_plus {n : Nat} (x y : Rat) (s : S) (hx : Bd n x) (hy : Bd n y) (hn : n ≤ 1000) : f_plus [rd x, rd y] s = .ok (rd (x + y)) s := by
  have h1 : mulOk x.num y.den = true := mulOk_of hx.1 hy.den (by omega)
  have h2 : mulOk y.num x.den = true := mulOk_of hy.1 hx.den (by omega)
  have h3 : mulOk x.den y.den = true := mulOk_of hx.den hy.den (by omega)
  have hf := fun s => e_fraction (x.num * y.den + y.num * x.den) (x.den * y.den) s (dens x y) (bits_mul hx.den hy.den) (by omega)
  rw [add_low] at hf
  by_cases c1 : (x.den : Int) = y.den
  · by_cases c2 : (y.den : Int) = 1
    · have e : rd (x + y) = .tup [.int (x.num + y.num), .int 1] := by
        rw [← add_low, ← low_eq (dens x y), c1, c2]
        simp
      rw [e]
      simp [f_plus, m_plus, rd, at0, at1, eq_int, c1, c2, fnM, bnd, Mp.ret, lift, stk, seqS, retS, asgS, dropS, ifS, setv, getv, peekv, op1, op2, ap1, ap2, asB, chain2, testM, truM, truO, andV, orV, notV, ifV, andB, orB, notB, argN, argC, mkTup, mkLst, frzd, callM, onMs, subsO, lenO, absO, isiO, D.tg, isTy, tgtT, tgtC, tgtN, par2, par3, forS, seqI, srcD, catO, addO, subO, repO, mulO, fdivO, modO, negO, ltO, leO, gtO, geO, cmpI, gcdO, maxO, minO, intO, tupleO, listO]
    · rw [c1] at h2 h3 hf
      simp [f_plus, m_plus, rd, at0, at1, eq_int, c1, c2, h1, h2, h3, hf, fnM, bnd, Mp.ret, lift, stk, seqS, retS, asgS, dropS, ifS, setv, getv, peekv, op1, op2, ap1, ap2, asB, chain2, testM, truM, truO, andV, orV, notV, ifV, andB, orB, notB, argN, argC, mkTup, mkLst, frzd, callM, onMs, subsO, lenO, absO, isiO, D.tg, isTy, tgtT, tgtC, tgtN, par2, par3, forS, seqI, srcD, catO, addO, subO, repO, mulO, fdivO, modO, negO, ltO, leO, gtO, geO, cmpI, gcdO, maxO, minO, intO, tupleO, listO]
  · simp [f_plus, m_plus, rd, at0, at1, eq_int, c1, h1, h2, h3, hf, fnM, bnd, Mp.ret, lift, stk, seqS, retS, asgS, dropS, ifS, setv, getv, peekv, op1, op2, ap1, ap2, asB, chain2, testM, truM, truO, andV, orV, notV, ifV, andB, orB, notB, argN, argC, mkTup, mkLst, frzd, callM, onMs, subsO, lenO, absO, isiO, D.tg, isTy, tgtT, tgtC, tgtN, par2, par3, forS, seqI, srcD, catO, addO, subO, repO, mulO, fdivO, modO, negO, ltO, leO, gtO, geO, cmpI, gcdO, maxO, minO, intO, tupleO, listO]
theorem e_opposite (x : Rat) (s : S) : f_opposite [rd x] s = .ok (rd (-x)) s := by
  simp [f_opposite, m_opposite, rd, at0, at1, fnM, bnd, Mp.ret, lift, stk, seqS, retS, asgS, dropS, ifS, setv, getv, peekv, op1, op2, ap1, ap2, asB, chain2, testM, truM, truO, andV, orV, notV, ifV, andB, orB, notB, argN, argC, mkTup, mkLst, frzd, callM, onMs, subsO, lenO, absO, isiO, D.tg, isTy, tgtT, tgtC, tgtN, par2, par3, forS, seqI, srcD, catO, addO, subO, repO, mulO, fdivO, modO, negO, ltO, leO, gtO, geO, cmpI, gcdO, maxO, minO, intO, tupleO, listO]
theorem e_minus {n : Nat} (x y : Rat) (s : S) (hx : Bd n x) (hy : Bd n y) (hn : n ≤ 1000) : f_minus [rd x, rd y] s = .ok (rd (x - y)) s := by
  have hp := fun s => e_plus x (-y) s hx hy.neg hn
  rw [← Rat.sub_eq_add_neg] at hp
  have e : rd (-y) = .tup [.int (-y.num), .int y.den] := rfl
  rw [e] at hp
  have e2 : rd y = .tup [.int (y.num), .int y.den] := rfl
  simp [f_minus, m_minus, e2, at0, at1, hp, fnM, bnd, Mp.ret, lift, stk, seqS, retS, asgS, dropS, ifS, setv, getv, peekv, op1, op2, ap1, ap2, asB, chain2, testM, truM, truO, andV, orV, notV, ifV, andB, orB, notB, argN, argC, mkTup, mkLst, frzd, callM, onMs, subsO, lenO, absO, isiO, D.tg, isTy, tgtT, tgtC, tgtN, par2, par3, forS, seqI, srcD, catO, addO, subO, repO, mulO, fdivO, modO, negO, ltO, leO, gtO, geO, cmpI, gcdO, maxO, minO, intO, tupleO, listO]
theorem e_product {n : Nat} (x y : Rat) (s : S) (hx : Bd n x) (hy : Bd n y) (hn : n ≤ 1000) : f_product [rd x, rd y] s = .ok (rd (x * y)) s := by
  have h1 : mulOk x.num y.num = true := mulOk_of hx.1 hy.1 (by omega)
  have h3 : mulOk x.den y.den = true := mulOk_of hx.den hy.den (by omega)
  have hf := fun s => e_fraction (x.num * y.num) (x.den * y.den) s (dens x y) (bits_mul hx.den hy.den) (by omega)
  rw [mul_low] at hf
  by_cases c1 : (x.den : Int) = y.den
  · by_cases c2 : (y.den : Int) = 1
    · have e : rd (x * y) = .tup [.int (x.num * y.num), .int 1] := by
        rw [← mul_low, ← low_eq (dens x y), c1, c2]
        simp
      rw [e]
      simp [f_product, m_product, rd, at0, at1, eq_int, c1, c2, h1, fnM, bnd, Mp.ret, lift, stk, seqS, retS, asgS, dropS, ifS, setv, getv, peekv, op1, op2, ap1, ap2, asB, chain2, testM, truM, truO, andV, orV, notV, ifV, andB, orB, notB, argN, argC, mkTup, mkLst, frzd, callM, onMs, subsO, lenO, absO, isiO, D.tg, isTy, tgtT, tgtC, tgtN, par2, par3, forS, seqI, srcD, catO, addO, subO, repO, mulO, fdivO, modO, negO, ltO, leO, gtO, geO, cmpI, gcdO, maxO, minO, intO, tupleO, listO]
    · rw [c1] at h3 hf
      simp [f_product, m_product, rd, at0, at1, eq_int, c1, c2, h1, h3, hf, fnM, bnd, Mp.ret, lift, stk, seqS, retS, asgS, dropS, ifS, setv, getv, peekv, op1, op2, ap1, ap2, asB, chain2, testM, truM, truO, andV, orV, notV, ifV, andB, orB, notB, argN, argC, mkTup, mkLst, frzd, callM, onMs, subsO, lenO, absO, isiO, D.tg, isTy, tgtT, tgtC, tgtN, par2, par3, forS, seqI, srcD, catO, addO, subO, repO, mulO, fdivO, modO, negO, ltO, leO, gtO, geO, cmpI, gcdO, maxO, minO, intO, tupleO, listO]
  · simp [f_product, m_product, rd, at0, at1, eq_int, c1, h1, h3, hf, fnM, bnd, Mp.ret, lift, stk, seqS, retS, asgS, dropS, ifS, setv, getv, peekv, op1, op2, ap1, ap2, asB, chain2, testM, truM, truO, andV, orV, notV, ifV, andB, orB, notB, argN, argC, mkTup, mkLst, frzd, callM, onMs, subsO, lenO, absO, isiO, D.tg, isTy, tgtT, tgtC, tgtN, par2, par3, forS, seqI, srcD, catO, addO, subO, repO, mulO, fdivO, modO, negO, ltO, leO, gtO, geO, cmpI, gcdO, maxO, minO, intO, tupleO, listO]
/-! ### the law's own -/
theorem fmod_gcd (a b : Nat) : Nat.gcd b (a % b) = Nat.gcd a b := by
  rw [Nat.gcd_comm, ← Nat.gcd_rec, Nat.gcd_comm]
theorem loop_low (n u : D) (ms : List (List D)) : ∀ (b a : Nat), w1_law_low ⟨[.val n, .val u, .val (.int (a : Int)), .val (.int (b : Int))], ms⟩ = .ok .nx ⟨[.val n, .val u, .val (.int (Nat.gcd a b : Nat)), .val (.int 0)], ms⟩ := by
  intro b
  unfold w1_law_low
  induction b using Nat.strongRecOn with
  | ind b ih =>
    intro a
    by_cases hb : b = 0
    · subst hb
      have e : whS wc1_law_low wb1_law_low ⟨[.val n, .val u, .val (.int (a : Int)), .val (.int ((0 : Nat) : Int))], ms⟩ = .ok .nx ⟨[.val n, .val u, .val (.int (a : Int)), .val (.int ((0 : Nat) : Int))], ms⟩ := whS_false (by
        simp [wc1_law_low, fnM, bnd, Mp.ret, lift, stk, seqS, retS, asgS, dropS, ifS, setv, getv, peekv, op1, op2, ap1, ap2, asB, chain2, testM, truM, truO, andV, orV, notV, ifV, andB, orB, notB, argN, argC, mkTup, mkLst, frzd, callM, onMs, subsO, lenO, absO, isiO, D.tg, isTy, tgtT, tgtC, tgtN, par2, par3, forS, seqI, srcD, catO, addO, subO, repO, mulO, fdivO, modO, negO, ltO, leO, gtO, geO, cmpI, gcdO, maxO, minO, intO, tupleO, listO])
      rw [e]
      simp
    · have hb' : 0 < b := Nat.pos_of_ne_zero hb
      have e1 : (a : Int).fmod (b : Int) = ((a % b : Nat) : Int) := by
        rw [Int.fmod_eq_emod_of_nonneg _ (by omega)]
        rfl
      refine whS_true (s1 := ⟨[.val n, .val u, .val (.int (a : Int)), .val (.int (b : Int))], ms⟩) (s2 := ⟨[.val n, .val u, .val (.int (b : Int)), .val (.int ((a % b : Nat) : Int))], ms⟩) ?_ ?_ (by rw [ih (a % b) (Nat.mod_lt _ hb') b, fmod_gcd]) (fun h => by cases h)
      · simp [wc1_law_low, hb', fnM, bnd, Mp.ret, lift, stk, seqS, retS, asgS, dropS, ifS, setv, getv, peekv, op1, op2, ap1, ap2, asB, chain2, testM, truM, truO, andV, orV, notV, ifV, andB, orB, notB, argN, argC, mkTup, mkLst, frzd, callM, onMs, subsO, lenO, absO, isiO, D.tg, isTy, tgtT, tgtC, tgtN, par2, par3, forS, seqI, srcD, catO, addO, subO, repO, mulO, fdivO, modO, negO, ltO, leO, gtO, geO, cmpI, gcdO, maxO, minO, intO, tupleO, listO]
      · simp [wb1_law_low, hb, e1, fnM, bnd, Mp.ret, lift, stk, seqS, retS, asgS, dropS, ifS, setv, getv, peekv, op1, op2, ap1, ap2, asB, chain2, testM, truM, truO, andV, orV, notV, ifV, andB, orB, notB, argN, argC, mkTup, mkLst, frzd, callM, onMs, subsO, lenO, absO, isiO, D.tg, isTy, tgtT, tgtC, tgtN, par2, par3, forS, seqI, srcD, catO, addO, subO, repO, mulO, fdivO, modO, negO, ltO, leO, gtO, geO, cmpI, gcdO, maxO, minO, intO, tupleO, listO]
theorem e_law_low (n u : Int) (s : S) (hu : 0 < u) {k : Nat} (h : u.natAbs < 2 ^ k) (hk : k ≤ 9000) : f_law_low [.int n, .int u] s = .ok (rd (Rat.divInt n u)) s := by
  have h1 := low_ok (n := n) hu h hk
  rw [← low_eq hu]
  have hl := loop_low (.int n) (.int u) s.ms u.natAbs n.natAbs
  have e1 : (if n < 0 then -n else n) = (n.natAbs : Int) := by split <;> omega
  have e2 : (u.natAbs : Int) = u := by omega
  rw [e2] at hl
  simp [f_law_low, m_law_low, e1, hl, h1, fnM, bnd, Mp.ret, lift, stk, seqS, retS, asgS, dropS, ifS, setv, getv, peekv, op1, op2, ap1, ap2, asB, chain2, testM, truM, truO, andV, orV, notV, ifV, andB, orB, notB, argN, argC, mkTup, mkLst, frzd, callM, onMs, subsO, lenO, absO, isiO, D.tg, isTy, tgtT, tgtC, tgtN, par2, par3, forS, seqI, srcD, catO, addO, subO, repO, mulO, fdivO, modO, negO, ltO, leO, gtO, geO, cmpI, gcdO, maxO, minO, intO, tupleO, listO]
theorem e_law_plus {n : Nat} (x y : Rat) (s : S) (hx : Bd n x) (hy : Bd n y) (hn : n ≤ 1000) : f_law_plus [rd x, rd y] s = .ok (rd (x + y)) s := by
  have h1 : mulOk x.num y.den = true := mulOk_of hx.1 hy.den (by omega)
  have h2 : mulOk y.num x.den = true := mulOk_of hy.1 hx.den (by omega)
  have h3 : mulOk x.den y.den = true := mulOk_of hx.den hy.den (by omega)
  have hf := fun s => e_law_low (x.num * y.den + y.num * x.den) (x.den * y.den) s (dens x y) (bits_mul hx.den hy.den) (by omega)
  rw [add_low] at hf
  have ex : ∀ z, rd z = .tup [.int z.num, .int z.den] := fun _ => rfl
  rw [ex x, ex y]
  simp [f_law_plus, m_law_plus, at0, at1, h1, h2, h3, hf, fnM, bnd, Mp.ret, lift, stk, seqS, retS, asgS, dropS, ifS, setv, getv, peekv, op1, op2, ap1, ap2, asB, chain2, testM, truM, truO, andV, orV, notV, ifV, andB, orB, notB, argN, argC, mkTup, mkLst, frzd, callM, onMs, subsO, lenO, absO, isiO, D.tg, isTy, tgtT, tgtC, tgtN, par2, par3, forS, seqI, srcD, catO, addO, subO, repO, mulO, fdivO, modO, negO, ltO, leO, gtO, geO, cmpI, gcdO, maxO, minO, intO, tupleO, listO]
theorem e_law_minus {n : Nat} (x y : Rat) (s : S) (hx : Bd n x) (hy : Bd n y) (hn : n ≤ 1000) : f_law_minus [rd x, rd y] s = .ok (rd (x - y)) s := by
  have h1 : mulOk x.num y.den = true := mulOk_of hx.1 hy.den (by omega)
  have h2 : mulOk y.num x.den = true := mulOk_of hy.1 hx.den (by omega)
  have h3 : mulOk x.den y.den = true := mulOk_of hx.den hy.den (by omega)
  have hf := fun s => e_law_low (x.num * y.den - y.num * x.den) (x.den * y.den) s (dens x y) (bits_mul hx.den hy.den) (by omega)
  rw [sub_low] at hf
  have ex : ∀ z, rd z = .tup [.int z.num, .int z.den] := fun _ => rfl
  rw [ex x, ex y]
  simp [f_law_minus, m_law_minus, at0, at1, h1, h2, h3, hf, fnM, bnd, Mp.ret, lift, stk, seqS, retS, asgS, dropS, ifS, setv, getv, peekv, op1, op2, ap1, ap2, asB, chain2, testM, truM, truO, andV, orV, notV, ifV, andB, orB, notB, argN, argC, mkTup, mkLst, frzd, callM, onMs, subsO, lenO, absO, isiO, D.tg, isTy, tgtT, tgtC, tgtN, par2, par3, forS, seqI, srcD, catO, addO, subO, repO, mulO, fdivO, modO, negO, ltO, leO, gtO, geO, cmpI, gcdO, maxO, minO, intO, tupleO, listO]
theorem e_law_times {n : Nat} (x y : Rat) (s : S) (hx : Bd n x) (hy : Bd n y) (hn : n ≤ 1000) : f_law_times [rd x, rd y] s = .ok (rd (x * y)) s := by
  have h1 : mulOk x.num y.num = true := mulOk_of hx.1 hy.1 (by omega)
  have h3 : mulOk x.den y.den = true := mulOk_of hx.den hy.den (by omega)
  have hf := fun s => e_law_low (x.num * y.num) (x.den * y.den) s (dens x y) (bits_mul hx.den hy.den) (by omega)
  rw [mul_low] at hf
  have ex : ∀ z, rd z = .tup [.int z.num, .int z.den] := fun _ => rfl
  rw [ex x, ex y]
  simp [f_law_times, m_law_times, at0, at1, h1, h3, hf, fnM, bnd, Mp.ret, lift, stk, seqS, retS, asgS, dropS, ifS, setv, getv, peekv, op1, op2, ap1, ap2, asB, chain2, testM, truM, truO, andV, orV, notV, ifV, andB, orB, notB, argN, argC, mkTup, mkLst, frzd, callM, onMs, subsO, lenO, absO, isiO, D.tg, isTy, tgtT, tgtC, tgtN, par2, par3, forS, seqI, srcD, catO, addO, subO, repO, mulO, fdivO, modO, negO, ltO, leO, gtO, geO, cmpI, gcdO, maxO, minO, intO, tupleO, listO]
theorem e_law_less {n : Nat} (x y : Rat) (s : S) (hx : Bd n x) (hy : Bd n y) (hn : n ≤ 1000) : f_law_less [rd x, rd y] s = .ok (.bl (decide (x < y))) s := by
  have h1 : mulOk x.num y.den = true := mulOk_of hx.1 hy.den (by omega)
  have h2 : mulOk y.num x.den = true := mulOk_of hy.1 hx.den (by omega)
  simp [f_law_less, m_law_less, rd, at0, at1, h1, h2, Rat.lt_iff, fnM, bnd, Mp.ret, lift, stk, seqS, retS, asgS, dropS, ifS, setv, getv, peekv, op1, op2, ap1, ap2, asB, chain2, testM, truM, truO, andV, orV, notV, ifV, andB, orB, notB, argN, argC, mkTup, mkLst, frzd, callM, onMs, subsO, lenO, absO, isiO, D.tg, isTy, tgtT, tgtC, tgtN, par2, par3, forS, seqI, srcD, catO, addO, subO, repO, mulO, fdivO, modO, negO, ltO, leO, gtO, geO, cmpI, gcdO, maxO, minO, intO, tupleO, listO]
end K61

set_option linter.all false
set_option maxRecDepth 100000
namespace K61
open Mp
structure Ma where
  x : Rat
  y : Rat
  h : Rat
deriving DecidableEq
def md (m : Ma) : D := .tup [rd m.x, rd m.y, rd m.h]
def pd (p : Rat × Rat) : D := .tup [rd p.1, rd p.2]
def BM (n : Nat) (m : Ma) : Prop := Bd n m.x ∧ Bd n m.y ∧ Bd n m.h
def BP (n : Nat) (p : Rat × Rat) : Prop := Bd n p.1 ∧ Bd n p.2
def remv (m : Ma) (p : Rat × Rat) : Rat := (p.1 - m.x) * (p.1 - m.x) + (p.2 - m.y) * (p.2 - m.y) + m.h
theorem remv_bd {n : Nat} {m : Ma} {p : Rat × Rat} (hm : BM n m) (hp : BP n p) {k : Nat} (hk : 9 * n + 6 ≤ k) : Bd k (remv m p) := by
  have h1 := hp.1.sub hm.1 (Nat.le_refl (n + n + 1))
  have h2 := hp.2.sub hm.2.1 (Nat.le_refl (n + n + 1))
  have h3 := (h1.mul h1 (Nat.le_refl _)).add (h2.mul h2 (Nat.le_refl _)) (Nat.le_refl _)
  exact h3.add hm.2.2 (by omega)
theorem e_square_of {n : Nat} (x y : Rat) (s : S) (hx : Bd n x) (hy : Bd n y) (hn : n ≤ 400) : f_square_of [rd x, rd y] s = .ok (rd (x * x + y * y)) s := by
  have h1 := fun s => e_product x x s hx hx (by omega)
  have h2 := fun s => e_product y y s hy hy (by omega)
  have h3 := fun s => e_plus (x * x) (y * y) s (hx.mul hx (Nat.le_refl _)) (hy.mul hy (Nat.le_refl _)) (by omega)
  simp [f_square_of, m_square_of, h1, h2, h3, fnM, bnd, Mp.ret, lift, stk, seqS, retS, asgS, dropS, ifS, setv, getv, peekv, op1, op2, ap1, ap2, asB, chain2, testM, truM, truO, andV, orV, notV, ifV, andB, orB, notB, argN, argC, mkTup, mkLst, frzd, callM, onMs, subsO, lenO, absO, isiO, D.tg, isTy, tgtT, tgtC, tgtN, par2, par3, forS, seqI, srcD, catO, addO, subO, repO, mulO, fdivO, modO, negO, ltO, leO, gtO, geO, cmpI, gcdO, maxO, minO, intO, tupleO, listO]
theorem e_removal_by {n : Nat} (m : Ma) (p : Rat × Rat) (s : S) (hm : BM n m) (hp : BP n p) (hn : n ≤ 50) : f_removal_by [md m, pd p] s = .ok (rd (remv m p)) s := by
  have b1 := hp.1.sub hm.1 (Nat.le_refl (n + n + 1))
  have b2 := hp.2.sub hm.2.1 (Nat.le_refl (n + n + 1))
  have h1 := fun s => e_minus p.1 m.x s hp.1 hm.1 (by omega)
  have h2 := fun s => e_minus p.2 m.y s hp.2 hm.2.1 (by omega)
  have h3 := fun s => e_square_of (p.1 - m.x) (p.2 - m.y) s b1 b2 (by omega)
  have b3 : Bd (9 * n + 6) ((p.1 - m.x) * (p.1 - m.x) + (p.2 - m.y) * (p.2 - m.y)) := (b1.mul b1 (Nat.le_refl _)).add (b2.mul b2 (Nat.le_refl _)) (by omega)
  have h4 := fun s => e_plus ((p.1 - m.x) * (p.1 - m.x) + (p.2 - m.y) * (p.2 - m.y)) m.h s b3 (hm.2.2.mono (by omega)) (by omega)
  simp [f_removal_by, m_removal_by, md, pd, at0, at1, h1, h2, h3, h4, remv, fnM, bnd, Mp.ret, lift, stk, seqS, retS, asgS, dropS, ifS, setv, getv, peekv, op1, op2, ap1, ap2, asB, chain2, testM, truM, truO, andV, orV, notV, ifV, andB, orB, notB, argN, argC, mkTup, mkLst, frzd, callM, onMs, subsO, lenO, absO, isiO, D.tg, isTy, tgtT, tgtC, tgtN, par2, par3, forS, seqI, srcD, catO, addO, subO, repO, mulO, fdivO, modO, negO, ltO, leO, gtO, geO, cmpI, gcdO, maxO, minO, intO, tupleO, listO]
theorem two_rd : D.tup [.int 2, .int 1] = rd 2 := rfl
theorem e_plane_by {n : Nat} (m : Ma) (s : S) (hm : BM n m) (hn : n ≤ 50) : f_plane_by [md m] s = .ok (.tup [rd (2 * m.x), rd (2 * m.y), rd (-(m.x * m.x + m.y * m.y + m.h))]) s := by
  have b2 : Bd (n + 2) 2 := Bd.mono (n := 2) ⟨by decide, by decide⟩ (by omega)
  have h1 := fun s => e_product 2 m.x s b2 (hm.1.mono (by omega)) (by omega)
  have h2 := fun s => e_product 2 m.y s b2 (hm.2.1.mono (by omega)) (by omega)
  have h3 := fun s => e_square_of m.x m.y s hm.1 hm.2.1 (by omega)
  have b3 : Bd (9 * n + 6) (m.x * m.x + m.y * m.y) := (hm.1.mul hm.1 (Nat.le_refl _)).add (hm.2.1.mul hm.2.1 (Nat.le_refl _)) (by omega)
  have h4 := fun s => e_plus (m.x * m.x + m.y * m.y) m.h s b3 (hm.2.2.mono (by omega)) (by omega)
  have h5 := fun s => e_opposite (m.x * m.x + m.y * m.y + m.h) s
  simp [f_plane_by, m_plane_by, md, two_rd, h1, h2, h3, h4, h5, fnM, bnd, Mp.ret, lift, stk, seqS, retS, asgS, dropS, ifS, setv, getv, peekv, op1, op2, ap1, ap2, asB, chain2, testM, truM, truO, andV, orV, notV, ifV, andB, orB, notB, argN, argC, mkTup, mkLst, frzd, callM, onMs, subsO, lenO, absO, isiO, D.tg, isTy, tgtT, tgtC, tgtN, par2, par3, forS, seqI, srcD, catO, addO, subO, repO, mulO, fdivO, modO, negO, ltO, leO, gtO, geO, cmpI, gcdO, maxO, minO, intO, tupleO, listO]
theorem e_law_removal {n : Nat} (m : Ma) (p : Rat × Rat) (s : S) (hm : BM n m) (hp : BP n p) (hn : n ≤ 50) : f_law_removal [md m, pd p] s = .ok (rd (remv m p)) s := by
  have b1 := hp.1.sub hm.1 (Nat.le_refl (n + n + 1))
  have b2 := hp.2.sub hm.2.1 (Nat.le_refl (n + n + 1))
  have h1 := fun s => e_law_minus p.1 m.x s hp.1 hm.1 (by omega)
  have h2 := fun s => e_law_minus p.2 m.y s hp.2 hm.2.1 (by omega)
  have h3 := fun s => e_law_times (p.1 - m.x) (p.1 - m.x) s b1 b1 (by omega)
  have h3' := fun s => e_law_times (p.2 - m.y) (p.2 - m.y) s b2 b2 (by omega)
  have h5 := fun s => e_law_plus ((p.1 - m.x) * (p.1 - m.x)) ((p.2 - m.y) * (p.2 - m.y)) s (b1.mul b1 (Nat.le_refl _)) (b2.mul b2 (Nat.le_refl _)) (by omega)
  have b3 : Bd (9 * n + 6) ((p.1 - m.x) * (p.1 - m.x) + (p.2 - m.y) * (p.2 - m.y)) := (b1.mul b1 (Nat.le_refl _)).add (b2.mul b2 (Nat.le_refl _)) (by omega)
  have h4 := fun s => e_law_plus ((p.1 - m.x) * (p.1 - m.x) + (p.2 - m.y) * (p.2 - m.y)) m.h s b3 (hm.2.2.mono (by omega)) (by omega)
  simp [f_law_removal, m_law_removal, md, pd, at0, at1, at2, h1, h2, h3, h3', h5, h4, remv, fnM, bnd, Mp.ret, lift, stk, seqS, retS, asgS, dropS, ifS, setv, getv, peekv, op1, op2, ap1, ap2, asB, chain2, testM, truM, truO, andV, orV, notV, ifV, andB, orB, notB, argN, argC, mkTup, mkLst, frzd, callM, onMs, subsO, lenO, absO, isiO, D.tg, isTy, tgtT, tgtC, tgtN, par2, par3, forS, seqI, srcD, catO, addO, subO, repO, mulO, fdivO, modO, negO, ltO, leO, gtO, geO, cmpI, gcdO, maxO, minO, intO, tupleO, listO]
end K61

set_option linter.all false
set_option maxRecDepth 100000
namespace K61
open Mp
def rmin : Rat → List Rat → Rat
  | m, [] => m
  | m, q :: qs => rmin (if q < m then q else m) qs
theorem rmin_spec : ∀ (qs : List Rat) (m : Rat), (rmin m qs = m ∨ rmin m qs ∈ qs) ∧ (∀ q ∈ qs, ¬ q < rmin m qs) ∧ ¬ m < rmin m qs
  | [], m => ⟨.inl rfl, by simp, by unfold rmin; grind⟩
  | q :: qs, m => by
    obtain ⟨h1, h2, h3⟩ := rmin_spec qs (if q < m then q else m)
    unfold rmin
    generalize rmin (if q < m then q else m) qs = r at h1 h2 h3
    by_cases c : q < m
    · rw [if_pos c] at h1 h3
      refine ⟨.inr ?_, fun z hz => ?_, by grind⟩
      · rcases h1 with e | e
        · rw [e]; exact List.mem_cons_self
        · exact List.mem_cons_of_mem _ e
      · rcases List.mem_cons.mp hz with e | e
        · rw [e]; exact h3
        · exact h2 z e
    · rw [if_neg c] at h1 h3
      refine ⟨?_, fun z hz => ?_, h3⟩
      · rcases h1 with e | e
        · exact .inl e
        · exact .inr (List.mem_cons_of_mem _ e)
      · rcases List.mem_cons.mp hz with e | e
        · rw [e]; grind
        · exact h2 z e
theorem rmin_bd {n : Nat} {m : Rat} {qs : List Rat} (hm : Bd n m) (hb : ∀ q ∈ qs, Bd n q) : Bd n (rmin m qs) := by
  rcases (rmin_spec qs m).1 with e | e
  · rw [e]; exact hm
  · exact hb _ e
theorem loop_least {n : Nat} (hn : n ≤ 1000) (ms : List (List D)) (all : D) : ∀ (rest : List Rat) (r2 : Sl) (m : Rat), (∀ q ∈ rest, Bd n q) → Bd n m → ∃ r2', forL (setv 2) lb1_least (rest.map rd) ⟨[.val all, .val (rd m), r2], ms⟩ = .ok .nx ⟨[.val all, .val (rd (rmin m rest)), r2'], ms⟩ := by
  intro rest
  induction rest with
  | nil => exact fun r2 m _ _ => ⟨r2, rfl⟩
  | cons q rest ih =>
    intro r2 m hr hm
    have hq := hr q List.mem_cons_self
    have hl := fun s => e_is_less q m s hq hm hn
    have hm' : Bd n (if q < m then q else m) := by split <;> assumption
    obtain ⟨r2', h⟩ := ih (.val (rd q)) (if q < m then q else m) (fun z hz => hr z (List.mem_cons_of_mem _ hz)) hm'
    refine ⟨r2', ?_⟩
    rw [List.map_cons, forL_step (s1 := ⟨[.val all, .val (rd m), .val (rd q)], ms⟩) (s2 := ⟨[.val all, .val (rd (if q < m then q else m)), .val (rd q)], ms⟩) (by simp [fnM, bnd, Mp.ret, lift, stk, seqS, retS, asgS, dropS, ifS, setv, getv, peekv, op1, op2, ap1, ap2, asB, chain2, testM, truM, truO, andV, orV, notV, ifV, andB, orB, notB, argN, argC, mkTup, mkLst, frzd, callM, onMs, subsO, lenO, absO, isiO, D.tg, isTy, tgtT, tgtC, tgtN, par2, par3, forS, seqI, srcD, catO, addO, subO, repO, mulO, fdivO, modO, negO, ltO, leO, gtO, geO, cmpI, gcdO, maxO, minO, intO, tupleO, listO]) (by
      by_cases c : q < m
      · simp [lb1_least, hl, c, fnM, bnd, Mp.ret, lift, stk, seqS, retS, asgS, dropS, ifS, setv, getv, peekv, op1, op2, ap1, ap2, asB, chain2, testM, truM, truO, andV, orV, notV, ifV, andB, orB, notB, argN, argC, mkTup, mkLst, frzd, callM, onMs, subsO, lenO, absO, isiO, D.tg, isTy, tgtT, tgtC, tgtN, par2, par3, forS, seqI, srcD, catO, addO, subO, repO, mulO, fdivO, modO, negO, ltO, leO, gtO, geO, cmpI, gcdO, maxO, minO, intO, tupleO, listO]
      · simp [lb1_least, hl, c, fnM, bnd, Mp.ret, lift, stk, seqS, retS, asgS, dropS, ifS, setv, getv, peekv, op1, op2, ap1, ap2, asB, chain2, testM, truM, truO, andV, orV, notV, ifV, andB, orB, notB, argN, argC, mkTup, mkLst, frzd, callM, onMs, subsO, lenO, absO, isiO, D.tg, isTy, tgtT, tgtC, tgtN, par2, par3, forS, seqI, srcD, catO, addO, subO, repO, mulO, fdivO, modO, negO, ltO, leO, gtO, geO, cmpI, gcdO, maxO, minO, intO, tupleO, listO])]
    exact h
theorem e_least {n : Nat} (q0 : Rat) (qs : List Rat) (s : S) (hb : ∀ q ∈ q0 :: qs, Bd n q) (hn : n ≤ 1000) : f_least [.lst ((q0 :: qs).map rd)] s = .ok (rd (rmin q0 (q0 :: qs))) s := by
  obtain ⟨r2', h⟩ := loop_least hn s.ms (.lst ((q0 :: qs).map rd)) (q0 :: qs) .un q0 hb (hb q0 List.mem_cons_self)
  rw [List.map_cons] at h ⊢
  simp [f_least, m_least, l1_least, at0, h, fnM, bnd, Mp.ret, lift, stk, seqS, retS, asgS, dropS, ifS, setv, getv, peekv, op1, op2, ap1, ap2, asB, chain2, testM, truM, truO, andV, orV, notV, ifV, andB, orB, notB, argN, argC, mkTup, mkLst, frzd, callM, onMs, subsO, lenO, absO, isiO, D.tg, isTy, tgtT, tgtC, tgtN, par2, par3, forS, seqI, srcD, catO, addO, subO, repO, mulO, fdivO, modO, negO, ltO, leO, gtO, geO, cmpI, gcdO, maxO, minO, intO, tupleO, listO]
def lmin : List Rat → Rat
  | [] => 0
  | q :: qs => rmin q (q :: qs)
theorem e_least' {n : Nat} (qs : List Rat) (hq : qs ≠ []) (s : S) (hb : ∀ q ∈ qs, Bd n q) (hn : n ≤ 1000) : f_least [.lst (qs.map rd)] s = .ok (rd (lmin qs)) s := by
  cases qs with
  | nil => exact absurd rfl hq
  | cons q0 qs => exact e_least q0 qs s hb hn
theorem lmin_spec (qs : List Rat) (hq : qs ≠ []) : lmin qs ∈ qs ∧ ∀ q ∈ qs, ¬ q < lmin qs := by
  cases qs with
  | nil => exact absurd rfl hq
  | cons q0 qs =>
    obtain ⟨h1, h2, h3⟩ := rmin_spec (q0 :: qs) q0
    refine ⟨?_, h2⟩
    rcases h1 with e | e
    · show rmin q0 (q0 :: qs) ∈ _
      rw [e]; exact List.mem_cons_self
    · exact e
/-- who has the least -/
def isLeast (qs : List Rat) (q : Rat) : Bool := qs.all fun z => decide (¬ z < q)
def idxs (qs : List Rat) : List D := (List.range qs.length).filterMap fun i => if isLeast qs (qs.getD i 0) then some (D.int (i : Nat)) else none
theorem getD_map {qs : List Rat} {i : Nat} (h : i < qs.length) : (qs.map rd).getD i .non = rd (qs.getD i 0) := by
  rw [List.getD_eq_getElem?_getD, List.getD_eq_getElem?_getD, List.getElem?_map, List.getElem?_eq_getElem h]
  rfl
theorem getD_mem {qs : List Rat} {i : Nat} (h : i < qs.length) : qs.getD i 0 ∈ qs := by
  rw [List.getD_eq_getElem?_getD, List.getElem?_eq_getElem h]
  exact List.getElem_mem h
/-- [removal_by(mast, place) for mast in masts] -/
theorem e_nearest_by {n : Nat} (ms : List Ma) (hne : ms ≠ []) (p : Rat × Rat) (s : S) (hm : ∀ m ∈ ms, BM n m) (hp : BP n p) (hn : n ≤ 50) (hl : ms.length ≤ 1000) :
    f_nearest_by [.tup (ms.map md), pd p] s = .ok (.lst (idxs (ms.map fun m => remv m p))) s := by
  have hb : ∀ q ∈ ms.map (fun m => remv m p), Bd 500 q := fun q hq => by
    obtain ⟨m, hmm, rfl⟩ := List.mem_map.mp hq
    exact remv_bd (hm m hmm) hp (by omega)
  have hc2 : c2_nearest_by ⟨[.val (.tup (ms.map md)), .val (pd p), .un, .un, .un, .un, .un], s.ms⟩ = .ok (ms.map fun m => rd (remv m p)) ⟨[.val (.tup (ms.map md)), .val (pd p), .un, .un, .un, .un, .un], s.ms⟩ := by
    have := lcM_map md (ms) (vs := [4]) (src := seqI (getv 0)) (t := setv 4) (c := yesM) (f := ce2_nearest_by) (fun m => some (rd (remv m p)))
      (s := ⟨[.val (.tup (ms.map md)), .val (pd p), .un, .un, .un, .un, .un], s.ms⟩) (by simp [fnM, bnd, Mp.ret, lift, stk, seqS, retS, asgS, dropS, ifS, setv, getv, peekv, op1, op2, ap1, ap2, asB, chain2, testM, truM, truO, andV, orV, notV, ifV, andB, orB, notB, argN, argC, mkTup, mkLst, frzd, callM, onMs, subsO, lenO, absO, isiO, D.tg, isTy, tgtT, tgtC, tgtN, par2, par3, forS, seqI, srcD, catO, addO, subO, repO, mulO, fdivO, modO, negO, ltO, leO, gtO, geO, cmpI, gcdO, maxO, minO, intO, tupleO, listO]) (by omega) (by simp) (by
        intro m hmm
        have hr := fun s => e_removal_by m p s (hm m hmm) hp hn
        refine ⟨[.val (.tup (ms.map md)), .val (pd p), .un, .un, .val (md m), .un, .un], ?_, by simp [wipeE]⟩
        simp [lcT, wipeE, yesM, ce2_nearest_by, hr, fnM, bnd, Mp.ret, lift, stk, seqS, retS, asgS, dropS, ifS, setv, getv, peekv, op1, op2, ap1, ap2, asB, chain2, testM, truM, truO, andV, orV, notV, ifV, andB, orB, notB, argN, argC, mkTup, mkLst, frzd, callM, onMs, subsO, lenO, absO, isiO, D.tg, isTy, tgtT, tgtC, tgtN, par2, par3, forS, seqI, srcD, catO, addO, subO, repO, mulO, fdivO, modO, negO, ltO, leO, gtO, geO, cmpI, gcdO, maxO, minO, intO, tupleO, listO])
    unfold c2_nearest_by
    rw [this, filterMap_some_map]
    simp [restE, wipeE, keepVal]
  have hqne : (ms.map fun m => remv m p) ≠ [] := by simpa using hne
  have h3' := fun s => e_least' (n := 500) (ms.map fun m => remv m p) hqne s hb (by omega)
  have e0 : (ms.map fun m => rd (remv m p)) = (ms.map fun m => remv m p).map rd := by rw [List.map_map]; rfl
  obtain ⟨h1, h2⟩ := lmin_spec _ hqne
  generalize lmin (ms.map fun m => remv m p) = b at h1 h2 h3'
  rw [← e0] at h3'
  have hc1 : c1_nearest_by ⟨[.val (.tup (ms.map md)), .val (pd p), .val (.lst (ms.map fun m => rd (remv m p))), .val (rd b), .un, .un, .un], s.ms⟩ = .ok (idxs (ms.map fun m => remv m p)) ⟨[.val (.tup (ms.map md)), .val (pd p), .val (.lst (ms.map fun m => rd (remv m p))), .val (rd b), .un, .un, .un], s.ms⟩ := by
    obtain ⟨qs, hqs⟩ : ∃ qs, qs = ms.map fun m => remv m p := ⟨_, rfl⟩
    have e : (ms.map fun m => rd (remv m p)) = qs.map rd := by rw [hqs, List.map_map]; rfl
    rw [e, ← hqs]
    rw [← hqs] at hb
    have hlq : qs.length ≤ 1001 := by rw [hqs]; simp; omega
    have h1' : b ∈ qs := by rw [hqs]; exact h1
    have h2' : ∀ q ∈ qs, ¬ q < b := by rw [hqs]; exact h2
    have := lcM_map (fun i : Nat => D.tup [.int (i : Nat), (qs.map rd).getD i .non]) (List.range qs.length) (vs := [5, 6]) (src := overA enumO (argC (getv 2) argN)) (t := tgtT 2 (tgtC (setv 5) (tgtC (setv 6) tgtN))) (c := ct1_nearest_by) (f := ce1_nearest_by)
      (fun i => if isLeast qs (qs.getD i 0) then some (D.int (i : Nat)) else none)
      (s := ⟨[.val (.tup (ms.map md)), .val (pd p), .val (.lst (qs.map rd)), .val (rd b), .un, .un, .un], s.ms⟩) (by simp [overA, enumO, enumL, fnM, bnd, Mp.ret, lift, stk, seqS, retS, asgS, dropS, ifS, setv, getv, peekv, op1, op2, ap1, ap2, asB, chain2, testM, truM, truO, andV, orV, notV, ifV, andB, orB, notB, argN, argC, mkTup, mkLst, frzd, callM, onMs, subsO, lenO, absO, isiO, D.tg, isTy, tgtT, tgtC, tgtN, par2, par3, forS, seqI, srcD, catO, addO, subO, repO, mulO, fdivO, modO, negO, ltO, leO, gtO, geO, cmpI, gcdO, maxO, minO, intO, tupleO, listO]) (by simp; omega) (by simp) (by
        intro i hi
        have hlt : i < qs.length := List.mem_range.mp hi
        rw [getD_map hlt]
        have hq := getD_mem hlt
        generalize qs.getD i 0 = q at hq
        have hr := fun s => e_is_less (n := 500) b q s (hb b h1') (hb q hq) (by omega)
        refine ⟨[.val (.tup (ms.map md)), .val (pd p), .val (.lst (qs.map rd)), .val (rd b), .un, .val (.int (i : Nat)), .val (rd q)], ?_, by simp [wipeE]⟩
        by_cases c : b < q
        · have e1 : isLeast qs q = false := by
            unfold isLeast
            rw [List.all_eq_false]
            exact ⟨b, h1', by simpa using c⟩
          simp [lcT, wipeE, ct1_nearest_by, ce1_nearest_by, hr, c, e1, fnM, bnd, Mp.ret, lift, stk, seqS, retS, asgS, dropS, ifS, setv, getv, peekv, op1, op2, ap1, ap2, asB, chain2, testM, truM, truO, andV, orV, notV, ifV, andB, orB, notB, argN, argC, mkTup, mkLst, frzd, callM, onMs, subsO, lenO, absO, isiO, D.tg, isTy, tgtT, tgtC, tgtN, par2, par3, forS, seqI, srcD, catO, addO, subO, repO, mulO, fdivO, modO, negO, ltO, leO, gtO, geO, cmpI, gcdO, maxO, minO, intO, tupleO, listO]
        · have e1 : isLeast qs q = true := by
            unfold isLeast
            rw [List.all_eq_true]
            intro z hz
            have := h2' z hz
            simp only [decide_eq_true_eq]
            grind
          simp [lcT, wipeE, ct1_nearest_by, ce1_nearest_by, hr, c, e1, fnM, bnd, Mp.ret, lift, stk, seqS, retS, asgS, dropS, ifS, setv, getv, peekv, op1, op2, ap1, ap2, asB, chain2, testM, truM, truO, andV, orV, notV, ifV, andB, orB, notB, argN, argC, mkTup, mkLst, frzd, callM, onMs, subsO, lenO, absO, isiO, D.tg, isTy, tgtT, tgtC, tgtN, par2, par3, forS, seqI, srcD, catO, addO, subO, repO, mulO, fdivO, modO, negO, ltO, leO, gtO, geO, cmpI, gcdO, maxO, minO, intO, tupleO, listO])
    unfold c1_nearest_by
    rw [this]
    simp [restE, wipeE, keepVal, idxs]
  simp [f_nearest_by, m_nearest_by, hc2, h3', hc1, fnM, bnd, Mp.ret, lift, stk, seqS, retS, asgS, dropS, ifS, setv, getv, peekv, op1, op2, ap1, ap2, asB, chain2, testM, truM, truO, andV, orV, notV, ifV, andB, orB, notB, argN, argC, mkTup, mkLst, frzd, callM, onMs, subsO, lenO, absO, isiO, D.tg, isTy, tgtT, tgtC, tgtN, par2, par3, forS, seqI, srcD, catO, addO, subO, repO, mulO, fdivO, modO, negO, ltO, leO, gtO, geO, cmpI, gcdO, maxO, minO, intO, tupleO, listO]
end K61

set_option linter.all false
set_option maxRecDepth 100000
namespace K61
open Mp
/-! ### values of any kind -/
def isI : D → Bool
  | .int _ => true
  | _ => false
def small : D → Bool
  | .int i => decide (i.natAbs < 2 ^ 100)
  | _ => true
def gd : Nat → D → Bool
  | 0, x => x.tg.isSome && small x
  | k + 1, x => x.tg.isSome && small x && (match x with | .tup xs => decide (xs.length ≤ 100) && xs.all (gd k) | _ => true)
theorem gd_tg {k : Nat} {x : D} (h : gd k x = true) : x.tg.isSome = true := by
  cases k <;> (unfold gd at h; simp only [Bool.and_eq_true] at h)
  · exact h.1
  · exact h.1.1
theorem gd_small {k : Nat} {x : D} (h : gd k x = true) : small x = true := by
  cases k <;> (unfold gd at h; simp only [Bool.and_eq_true] at h)
  · exact h.2
  · exact h.1.2
theorem gd_tup {k : Nat} {xs : List D} (h : gd (k + 1) (.tup xs) = true) : xs.length ≤ 100 ∧ ∀ x ∈ xs, gd k x = true := by
  unfold gd at h
  simp only [Bool.and_eq_true, decide_eq_true_eq, List.all_eq_true] at h
  exact h.2
theorem e_is_integer (x : D) (s : S) (h : x.tg.isSome = true) : f_is_integer [x] s = .ok (.bl (isI x)) s := by
  cases x <;> first
    | (simp [D.tg] at h; done)
    | (simp [f_is_integer, m_is_integer, isI, fnM, bnd, Mp.ret, lift, stk, seqS, retS, asgS, dropS, ifS, setv, getv, peekv, op1, op2, ap1, ap2, asB, chain2, testM, truM, truO, andV, orV, notV, ifV, andB, orB, notB, argN, argC, mkTup, mkLst, frzd, callM, onMs, subsO, lenO, absO, isiO, D.tg, isTy, tgtT, tgtC, tgtN, par2, par3, forS, seqI, srcD, catO, addO, subO, repO, mulO, fdivO, modO, negO, ltO, leO, gtO, geO, cmpI, gcdO, maxO, minO, intO, tupleO, listO])
def isRow (x : D) (n : Nat) : Bool := match x with
  | .tup xs => decide (xs.length = n)
  | _ => false
theorem e_is_row (x : D) (n : Nat) (s : S) (h : x.tg.isSome = true) : f_is_row [x, .int (n : Nat)] s = .ok (.bl (isRow x n)) s := by
  cases x <;> first
    | (simp [D.tg] at h; done)
    | (simp [f_is_row, m_is_row, isRow, eq_int, fnM, bnd, Mp.ret, lift, stk, seqS, retS, asgS, dropS, ifS, setv, getv, peekv, op1, op2, ap1, ap2, asB, chain2, testM, truM, truO, andV, orV, notV, ifV, andB, orB, notB, argN, argC, mkTup, mkLst, frzd, callM, onMs, subsO, lenO, absO, isiO, D.tg, isTy, tgtT, tgtC, tgtN, par2, par3, forS, seqI, srcD, catO, addO, subO, repO, mulO, fdivO, modO, negO, ltO, leO, gtO, geO, cmpI, gcdO, maxO, minO, intO, tupleO, listO])
  omega
def ratioB (x : D) : Bool := match x with
  | .tup [.int a, .int b] => decide (1 ≤ b) && decide (Nat.gcd a.natAbs b.natAbs = 1)
  | _ => false
theorem small_bound {i : Int} (h : small (.int i) = true) : i < k_BOUND ∧ -i < k_BOUND := by
  have h1 : i.natAbs < 2 ^ 100 := by simpa [small] using h
  have h2 : (2 : Nat) ^ 100 < 10 ^ 31 := by decide
  have h3 : (10 : Int) ^ 31 < k_BOUND := by decide
  have h4 : (10 : Int) ^ 31 = ((10 ^ 31 : Nat) : Int) := by decide
  omega
theorem e_is_ratio (x : D) (s : S) (h : gd 1 x = true) : f_is_ratio [x] s = .ok (.bl (ratioB x)) s := by
  have hr := fun s => e_is_row x 2 s (gd_tg h)
  have hr2 : ∀ s, f_is_row [x, .int 2] s = .ok (.bl (isRow x 2)) s := hr
  by_cases c : isRow x 2 = true
  · obtain ⟨a, b, rfl⟩ : ∃ a b, x = .tup [a, b] := by
      cases x with
      | tup xs =>
        match xs, c with
        | [a, b], _ => exact ⟨a, b, rfl⟩
        | [], c => simp [isRow] at c
        | [a], c => simp [isRow] at c
        | a :: b :: d :: r, c => simp [isRow] at c
      | _ => simp [isRow] at c
    obtain ⟨_, hg⟩ := gd_tup h
    have ga := hg a (by simp)
    have gb := hg b (by simp)
    have ia := fun s => e_is_integer a s (gd_tg ga)
    have ib := fun s => e_is_integer b s (gd_tg gb)
    by_cases ca : isI a = true
    · by_cases cb : isI b = true
      · obtain ⟨i, rfl⟩ : ∃ i, a = .int i := by cases a <;> first | exact ⟨_, rfl⟩ | simp [isI] at ca
        obtain ⟨j, rfl⟩ : ∃ j, b = .int j := by cases b <;> first | exact ⟨_, rfl⟩ | simp [isI] at cb
        have b1 := small_bound (gd_small ga)
        have b2 := small_bound (gd_small gb)
        generalize hK : (k_BOUND : Int) = KB at b1 b2
        have n1 : ¬ (KB ≤ if i < 0 then -i else i) := by split <;> omega
        by_cases c1 : 1 ≤ j
        · have hg1 : ((Nat.gcd i.natAbs j.natAbs : Nat) : Int) = 1 ↔ Nat.gcd i.natAbs j.natAbs = 1 := by omega
          simp [f_is_ratio, m_is_ratio, hr2, c, ia, ib, ca, cb, at0, at1, c1, b2.1, n1, ratioB, eq_int, hK, hg1, fnM, bnd, Mp.ret, lift, stk, seqS, retS, asgS, dropS, ifS, setv, getv, peekv, op1, op2, ap1, ap2, asB, chain2, testM, truM, truO, andV, orV, notV, ifV, andB, orB, notB, argN, argC, mkTup, mkLst, frzd, callM, onMs, subsO, lenO, absO, isiO, D.tg, isTy, tgtT, tgtC, tgtN, par2, par3, forS, seqI, srcD, catO, addO, subO, repO, mulO, fdivO, modO, negO, ltO, leO, gtO, geO, cmpI, gcdO, maxO, minO, intO, tupleO, listO]
        · simp [f_is_ratio, m_is_ratio, hr2, c, ia, ib, ca, cb, at0, at1, c1, ratioB, fnM, bnd, Mp.ret, lift, stk, seqS, retS, asgS, dropS, ifS, setv, getv, peekv, op1, op2, ap1, ap2, asB, chain2, testM, truM, truO, andV, orV, notV, ifV, andB, orB, notB, argN, argC, mkTup, mkLst, frzd, callM, onMs, subsO, lenO, absO, isiO, D.tg, isTy, tgtT, tgtC, tgtN, par2, par3, forS, seqI, srcD, catO, addO, subO, repO, mulO, fdivO, modO, negO, ltO, leO, gtO, geO, cmpI, gcdO, maxO, minO, intO, tupleO, listO]
      · have e : ratioB (.tup [a, b]) = false := by
          cases b <;> first
            | (cases a <;> rfl)
            | simp [isI] at cb
        rw [e]
        simp [f_is_ratio, m_is_ratio, hr2, c, ia, ib, ca, cb, at0, at1, fnM, bnd, Mp.ret, lift, stk, seqS, retS, asgS, dropS, ifS, setv, getv, peekv, op1, op2, ap1, ap2, asB, chain2, testM, truM, truO, andV, orV, notV, ifV, andB, orB, notB, argN, argC, mkTup, mkLst, frzd, callM, onMs, subsO, lenO, absO, isiO, D.tg, isTy, tgtT, tgtC, tgtN, par2, par3, forS, seqI, srcD, catO, addO, subO, repO, mulO, fdivO, modO, negO, ltO, leO, gtO, geO, cmpI, gcdO, maxO, minO, intO, tupleO, listO]
    · have e : ratioB (.tup [a, b]) = false := by
        cases a <;> first
          | rfl
          | simp [isI] at ca
      rw [e]
      simp [f_is_ratio, m_is_ratio, hr2, c, ia, ib, ca, at0, at1, fnM, bnd, Mp.ret, lift, stk, seqS, retS, asgS, dropS, ifS, setv, getv, peekv, op1, op2, ap1, ap2, asB, chain2, testM, truM, truO, andV, orV, notV, ifV, andB, orB, notB, argN, argC, mkTup, mkLst, frzd, callM, onMs, subsO, lenO, absO, isiO, D.tg, isTy, tgtT, tgtC, tgtN, par2, par3, forS, seqI, srcD, catO, addO, subO, repO, mulO, fdivO, modO, negO, ltO, leO, gtO, geO, cmpI, gcdO, maxO, minO, intO, tupleO, listO]
  · have e : ratioB x = false := by
      cases x with
      | tup xs =>
        match xs with
        | [a, b] => simp [isRow] at c
        | [] => rfl
        | [a] => cases a <;> rfl
        | a :: b :: d :: r => cases a <;> first | rfl | (cases b <;> rfl)
      | _ => rfl
    rw [e]
    simp [f_is_ratio, m_is_ratio, hr2, c, fnM, bnd, Mp.ret, lift, stk, seqS, retS, asgS, dropS, ifS, setv, getv, peekv, op1, op2, ap1, ap2, asB, chain2, testM, truM, truO, andV, orV, notV, ifV, andB, orB, notB, argN, argC, mkTup, mkLst, frzd, callM, onMs, subsO, lenO, absO, isiO, D.tg, isTy, tgtT, tgtC, tgtN, par2, par3, forS, seqI, srcD, catO, addO, subO, repO, mulO, fdivO, modO, negO, ltO, leO, gtO, geO, cmpI, gcdO, maxO, minO, intO, tupleO, listO]
theorem bools_map {α : Type} (f : α → Bool) : ∀ l : List α, bools (l.map fun x => D.bl (f x)) = some (l.map f)
  | [] => rfl
  | x :: l => by
    rw [List.map_cons]
    unfold bools
    rw [bools_map f l]
    rfl
theorem all_map {α : Type} (f : α → Bool) (l : List α) (s : S) : allO (.lst (l.map fun x => D.bl (f x))) s = some (.bl (l.all f)) := by
  unfold allO
  simp only [bools_map, Option.map_some]
  rw [List.all_map]
  rfl
theorem any_map {α : Type} (f : α → Bool) (l : List α) (s : S) : anyO (.lst (l.map fun x => D.bl (f x))) s = some (.bl (l.any f)) := by
  unfold anyO
  simp only [bools_map, Option.map_some]
  rw [List.any_map]
  rfl
def mastB (x : D) : Bool := match x with
  | .tup xs => decide (xs.length = 3) && xs.all ratioB
  | _ => false
theorem e_is_mast (x : D) (s : S) (h : gd 2 x = true) : f_is_mast [x] s = .ok (.bl (mastB x)) s := by
  have hr : ∀ s, f_is_row [x, .int 3] s = .ok (.bl (isRow x 3)) s := fun s => e_is_row x 3 s (gd_tg h)
  by_cases c : isRow x 3 = true
  · obtain ⟨xs, rfl⟩ : ∃ xs, x = .tup xs := by cases x <;> first | exact ⟨_, rfl⟩ | simp [isRow] at c
    obtain ⟨hl, hg⟩ := gd_tup h
    have hc : c1_is_mast ⟨[.val (.tup xs), .un], s.ms⟩ = .ok (xs.map fun y => D.bl (ratioB y)) ⟨[.val (.tup xs), .un], s.ms⟩ := by
      have := lcM_pure (vs := [1]) (src := seqI (getv 0)) (t := setv 1) (c := yesM) (f := ce1_is_mast) (fun y => some (.bl (ratioB y)))
        (s := ⟨[.val (.tup xs), .un], s.ms⟩) (s1 := ⟨[.val (.tup xs), .un], s.ms⟩) (xs := xs) (by simp [fnM, bnd, Mp.ret, lift, stk, seqS, retS, asgS, dropS, ifS, setv, getv, peekv, op1, op2, ap1, ap2, asB, chain2, testM, truM, truO, andV, orV, notV, ifV, andB, orB, notB, argN, argC, mkTup, mkLst, frzd, callM, onMs, subsO, lenO, absO, isiO, D.tg, isTy, tgtT, tgtC, tgtN, par2, par3, forS, seqI, srcD, catO, addO, subO, repO, mulO, fdivO, modO, negO, ltO, leO, gtO, geO, cmpI, gcdO, maxO, minO, intO, tupleO, listO]) (by omega) (by simp) (by
          intro y hy
          have hr := fun s => e_is_ratio y s (hg y hy)
          refine ⟨[.val (.tup xs), .val y], ?_, by simp [wipeE]⟩
          simp [lcT, wipeE, yesM, ce1_is_mast, hr, fnM, bnd, Mp.ret, lift, stk, seqS, retS, asgS, dropS, ifS, setv, getv, peekv, op1, op2, ap1, ap2, asB, chain2, testM, truM, truO, andV, orV, notV, ifV, andB, orB, notB, argN, argC, mkTup, mkLst, frzd, callM, onMs, subsO, lenO, absO, isiO, D.tg, isTy, tgtT, tgtC, tgtN, par2, par3, forS, seqI, srcD, catO, addO, subO, repO, mulO, fdivO, modO, negO, ltO, leO, gtO, geO, cmpI, gcdO, maxO, minO, intO, tupleO, listO])
      unfold c1_is_mast
      rw [this, filterMap_some_map]
      simp [restE, wipeE, keepVal]
    have e : mastB (.tup xs) = xs.all ratioB := by
      have c' : xs.length = 3 := by simpa [isRow] using c
      simp [mastB, c']
    rw [e]
    have ha := fun s => all_map ratioB xs s
    simp [f_is_mast, m_is_mast, hr, c, hc, ha, fnM, bnd, Mp.ret, lift, stk, seqS, retS, asgS, dropS, ifS, setv, getv, peekv, op1, op2, ap1, ap2, asB, chain2, testM, truM, truO, andV, orV, notV, ifV, andB, orB, notB, argN, argC, mkTup, mkLst, frzd, callM, onMs, subsO, lenO, absO, isiO, D.tg, isTy, tgtT, tgtC, tgtN, par2, par3, forS, seqI, srcD, catO, addO, subO, repO, mulO, fdivO, modO, negO, ltO, leO, gtO, geO, cmpI, gcdO, maxO, minO, intO, tupleO, listO]
  · have e : mastB x = false := by
      cases x <;> first
        | rfl
        | (rename_i xs; have c' : ¬ xs.length = 3 := by simpa [isRow] using c
           simp [mastB, c'])
    rw [e]
    simp [f_is_mast, m_is_mast, hr, c, fnM, bnd, Mp.ret, lift, stk, seqS, retS, asgS, dropS, ifS, setv, getv, peekv, op1, op2, ap1, ap2, asB, chain2, testM, truM, truO, andV, orV, notV, ifV, andB, orB, notB, argN, argC, mkTup, mkLst, frzd, callM, onMs, subsO, lenO, absO, isiO, D.tg, isTy, tgtT, tgtC, tgtN, par2, par3, forS, seqI, srcD, catO, addO, subO, repO, mulO, fdivO, modO, negO, ltO, leO, gtO, geO, cmpI, gcdO, maxO, minO, intO, tupleO, listO]
/-- as masts -/
theorem ratio_of {x : D} (h : ratioB x = true) : ∃ q : Rat, x = rd q := by
  unfold ratioB at h
  split at h
  · rename_i a b
    simp only [Bool.and_eq_true, decide_eq_true_eq] at h
    refine ⟨Rat.divInt a b, ?_⟩
    rw [← low_eq (by omega : 0 < b), h.2]
    simp
  · cases h
theorem mast_of {x : D} (h : mastB x = true) : ∃ m : Ma, x = md m := by
  unfold mastB at h
  split at h
  · rename_i xs
    simp only [Bool.and_eq_true, decide_eq_true_eq, List.all_eq_true] at h
    obtain ⟨h1, h2⟩ := h
    match xs, h1 with
    | [a, b, c], _ =>
      obtain ⟨q1, rfl⟩ := ratio_of (h2 a (by simp))
      obtain ⟨q2, rfl⟩ := ratio_of (h2 b (by simp))
      obtain ⟨q3, rfl⟩ := ratio_of (h2 c (by simp))
      exact ⟨⟨q1, q2, q3⟩, rfl⟩
  · cases h
theorem masts_of {xs : List D} (h : xs.all mastB = true) : ∃ ms : List Ma, xs = ms.map md := by
  induction xs with
  | nil => exact ⟨[], rfl⟩
  | cons x xs ih =>
    rw [List.all_cons, Bool.and_eq_true] at h
    obtain ⟨m, rfl⟩ := mast_of h.1
    obtain ⟨ms, rfl⟩ := ih h.2
    exact ⟨m :: ms, rfl⟩
theorem rd_inj {p q : Rat} (h : rd p = rd q) : p = q := by
  unfold rd at h
  injection h with h
  injection h with h1 h2
  injection h1 with h1
  injection h2 with h2 _
  injection h2 with h2
  exact Rat.ext h1 (by omega)
theorem md_inj {m n : Ma} (h : md m = md n) : m = n := by
  unfold md at h
  injection h with h
  injection h with h1 h
  injection h with h2 h
  injection h with h3 _
  cases m
  cases n
  simp only [Ma.mk.injEq]
  exact ⟨rd_inj h1, rd_inj h2, rd_inj h3⟩
end K61

set_option linter.all false
set_option maxRecDepth 100000
namespace K61
open Mp
open PySem (PyData)
theorem ratioB_rd (q : Rat) : ratioB (rd q) = true := by
  have h1 := den_pos q
  have h2 := q.reduced
  unfold ratioB rd
  simp only [Bool.and_eq_true, decide_eq_true_eq]
  refine ⟨by omega, ?_⟩
  simpa [Nat.Coprime] using h2
theorem mastB_md (m : Ma) : mastB (md m) = true := by
  unfold mastB md
  simp [ratioB_rd]
def pr (q : Rat) : PyData := .tuple [.int q.num, .int q.den]
def pm (m : Ma) : PyData := .tuple [pr m.x, pr m.y, pr m.h]
theorem py_rd (q : Rat) : (rd q).py = some (pr q) := rfl
theorem py_md (m : Ma) : (md m).py = some (pm m) := rfl
theorem pys_md : ∀ ms : List Ma, D.py.pys (ms.map md) = some (ms.map pm)
  | [] => rfl
  | m :: ms => by
    rw [List.map_cons]
    unfold D.py.pys
    rw [py_md, pys_md ms]
    rfl
theorem eqv_pr (p q : Rat) : PyData.eqv (pr p) (pr q) = true ↔ p = q := by
  unfold pr
  simp only [PyData.eqv, PyData.eqvAll, Bool.and_true, Bool.and_eq_true, beq_iff_eq]
  constructor
  · rintro ⟨h1, h2⟩
    exact Rat.ext h1 (by omega)
  · rintro rfl
    exact ⟨rfl, rfl⟩
theorem eqv_pm (m n : Ma) : PyData.eqv (pm m) (pm n) = true ↔ m = n := by
  unfold pm
  simp only [PyData.eqv, PyData.eqvAll, Bool.and_true, Bool.and_eq_true, eqv_pr]
  cases m
  cases n
  simp
theorem shaped_pm (m : Ma) : PySem.SeqAt.shaped (pm m) = true := by
  simp [pm, pr, PySem.SeqAt.shaped, PyData.canLay0, PyData.canLayAll0, PyData.depth, PyData.depthAll]
theorem lay_pms : ∀ ms : List Ma, PyData.canLayAll0 (ms.map pm) = true ∧ PyData.depthAll (ms.map pm) ≤ 2
  | [] => ⟨rfl, by decide⟩
  | m :: ms => by
    obtain ⟨h1, h2⟩ := lay_pms ms
    rw [List.map_cons]
    refine ⟨?_, ?_⟩
    · unfold PyData.canLayAll0
      rw [h1]
      simp [pm, pr, PyData.canLay0, PyData.canLayAll0]
    · unfold PyData.depthAll
      have : PyData.depth (pm m) = 2 := by simp [pm, pr, PyData.depth, PyData.depthAll]
      omega
theorem shaped_pms (ms : List Ma) : PySem.SeqAt.shaped (.tuple (ms.map pm)) = true := by
  obtain ⟨h1, h2⟩ := lay_pms ms
  unfold PySem.SeqAt.shaped
  have h3 : PyData.depthAll (ms.map pm) + 1 ≤ 64 := by omega
  simp [PyData.canLay0, PyData.depth, h1, h3]
theorem nin_md (m : Ma) (ms : List Ma) (s : S) : ninO (md m) (.tup (ms.map md)) s = some (.bl (decide (m ∉ ms))) := by
  have e : (ms.map pm).any (fun z => PyData.eqv z (pm m)) = decide (m ∈ ms) := by
    rw [Bool.eq_iff_iff, List.any_eq_true, decide_eq_true_eq]
    constructor
    · rintro ⟨z, hz, h⟩
      obtain ⟨n, hn, rfl⟩ := List.mem_map.mp hz
      rw [(eqv_pm n m).mp h] at hn
      exact hn
    · intro h
      exact ⟨pm m, List.mem_map.mpr ⟨m, h, rfl⟩, (eqv_pm m m).mpr rfl⟩
  have hpy : (D.tup (ms.map md)).py = some (.tuple (ms.map pm)) := by
    unfold D.py
    rw [pys_md]
    rfl
  have e0 : inD (md m) (.tup (ms.map md)) = some (decide (m ∈ ms)) := by
    unfold inD
    have : ∀ a b, md m = .str a → D.tup (ms.map md) = .str b → False := by intro a b h; cases h
    simp only [md]
    rw [show (D.tup [rd m.x, rd m.y, rd m.h]) = md m from rfl, py_md, hpy]
    simp only [shaped_pm, shaped_pms, Bool.and_self, if_true, e]
  unfold ninO
  rw [e0]
  simp
/-! ### the set -/
open PySem (NestedKey)
def kr (q : Rat) : NestedKey := .tup [.num q.num, .num q.den]
def km (m : Ma) : NestedKey := .tup [kr m.x, kr m.y, kr m.h]
theorem keys_md : ∀ ms : List Ma, D.key.keys (ms.map md) = some (ms.map km)
  | [] => rfl
  | m :: ms => by
    rw [List.map_cons]
    unfold D.key.keys
    have : (md m).key = some (km m) := rfl
    rw [this, keys_md ms]
    rfl
theorem km_inj {m n : Ma} (h : km m = km n) : m = n := by
  unfold km kr at h
  simp only [NestedKey.tup.injEq, List.cons.injEq, NestedKey.num.injEq, and_true] at h
  obtain ⟨⟨h1, h2⟩, ⟨h3, h4⟩, h5, h6⟩ := h
  have e1 : m.x = n.x := Rat.ext h1 (by omega)
  have e2 : m.y = n.y := Rat.ext h3 (by omega)
  have e3 : m.h = n.h := Rat.ext h5 (by omega)
  cases m
  cases n
  simp only [Ma.mk.injEq]
  exact ⟨e1, e2, e3⟩
theorem dcount_le : ∀ ks : List NestedKey, dcount ks ≤ ks.length
  | [] => Nat.le_refl _
  | k :: ks => by
    have := dcount_le ks
    unfold dcount
    rw [List.length_cons]
    split <;> omega
theorem dcount_eq : ∀ ks : List NestedKey, dcount ks = ks.length ↔ ks.Nodup
  | [] => by simp [dcount]
  | k :: ks => by
    have h1 := dcount_le ks
    have h2 := dcount_eq ks
    unfold dcount
    rw [List.length_cons, List.nodup_cons]
    by_cases c : k ∈ ks
    · rw [if_pos c]
      constructor
      · intro h; omega
      · intro h; exact absurd c h.1
    · rw [if_neg c]
      constructor
      · intro h; exact ⟨c, h2.mp (by omega)⟩
      · intro h; rw [h2.mpr h.2]
theorem set_len (ms : List Ma) (hl : ms.length < 64) (s : S) : setLenO (.tup (ms.map md)) s = some (.int (dcount (ms.map km) : Nat)) := by
  unfold setLenO setLenL
  have h1 : ((ms.map md).all D.isTup) = true := by
    rw [List.all_map, List.all_eq_true]
    intro m _
    rfl
  have h2 : ((ms.map km).all fun k => decide (k.depth ≤ 8) && NS.nt k) = true := by
    rw [List.all_map, List.all_eq_true]
    intro m _
    simp [km, kr, NestedKey.depth, NestedKey.depthAll, NS.nt, NS.ntAll]
  simp only [List.length_map, hl, h1, and_self, if_true, keys_md, h2]
theorem map_nodup {ms : List Ma} : (ms.map km).Nodup ↔ ms.Nodup := by
  constructor
  · exact fun h => List.Pairwise.of_map km (fun _ _ hne e => hne (congrArg km e)) h
  · intro h
    refine List.Pairwise.map km ?_ h
    intro a b hne e
    exact hne (km_inj e)
end K61

set_option linter.all false
set_option maxRecDepth 100000
namespace K61
open Mp
def sizeOk (x : D) : Bool := match x with
  | .tup xs => decide (1 ≤ xs.length) && decide (xs.length ≤ 60)
  | _ => false
theorem e_are_of_no (x : D) (s : S) (h : gd 3 x = true) (hn : sizeOk x = false) : f_are_masts_of [x] s = .ok (.bl false) s := by
  have htg := gd_tg h
  cases x with
  | tup xs =>
    unfold sizeOk at hn
    simp only [Bool.and_eq_false_iff, decide_eq_false_iff_not] at hn
    rcases hn with hn | hn
    · have e0 : xs.length = 0 := by omega
      have : xs = [] := List.eq_nil_of_length_eq_zero e0
      subst this
      simp [f_are_masts_of, m_are_masts_of, fnM, bnd, Mp.ret, lift, stk, seqS, retS, asgS, dropS, ifS, setv, getv, peekv, op1, op2, ap1, ap2, asB, chain2, testM, truM, truO, andV, orV, notV, ifV, andB, orB, notB, argN, argC, mkTup, mkLst, frzd, callM, onMs, subsO, lenO, absO, isiO, D.tg, isTy, tgtT, tgtC, tgtN, par2, par3, forS, seqI, srcD, catO, addO, subO, repO, mulO, fdivO, modO, negO, ltO, leO, gtO, geO, cmpI, gcdO, maxO, minO, intO, tupleO, listO]
    · have c1 : (1 : Int) ≤ (xs.length : Int) := by omega
      have c2 : ¬ (xs.length : Int) ≤ 60 := by omega
      simp [f_are_masts_of, m_are_masts_of, c1, c2, fnM, bnd, Mp.ret, lift, stk, seqS, retS, asgS, dropS, ifS, setv, getv, peekv, op1, op2, ap1, ap2, asB, chain2, testM, truM, truO, andV, orV, notV, ifV, andB, orB, notB, argN, argC, mkTup, mkLst, frzd, callM, onMs, subsO, lenO, absO, isiO, D.tg, isTy, tgtT, tgtC, tgtN, par2, par3, forS, seqI, srcD, catO, addO, subO, repO, mulO, fdivO, modO, negO, ltO, leO, gtO, geO, cmpI, gcdO, maxO, minO, intO, tupleO, listO]
  | _ => first
    | (simp [D.tg] at htg; done)
    | (simp [f_are_masts_of, m_are_masts_of, fnM, bnd, Mp.ret, lift, stk, seqS, retS, asgS, dropS, ifS, setv, getv, peekv, op1, op2, ap1, ap2, asB, chain2, testM, truM, truO, andV, orV, notV, ifV, andB, orB, notB, argN, argC, mkTup, mkLst, frzd, callM, onMs, subsO, lenO, absO, isiO, D.tg, isTy, tgtT, tgtC, tgtN, par2, par3, forS, seqI, srcD, catO, addO, subO, repO, mulO, fdivO, modO, negO, ltO, leO, gtO, geO, cmpI, gcdO, maxO, minO, intO, tupleO, listO])
theorem e_law_are_no (x : D) (s : S) (h : gd 3 x = true) (hn : sizeOk x = false) : f_law_are_masts [x] s = .ok (.bl false) s := by
  have htg := gd_tg h
  cases x with
  | tup xs =>
    unfold sizeOk at hn
    simp only [Bool.and_eq_false_iff, decide_eq_false_iff_not] at hn
    rcases hn with hn | hn
    · have e0 : xs.length = 0 := by omega
      have : xs = [] := List.eq_nil_of_length_eq_zero e0
      subst this
      simp [f_law_are_masts, m_law_are_masts, fnM, bnd, Mp.ret, lift, stk, seqS, retS, asgS, dropS, ifS, setv, getv, peekv, op1, op2, ap1, ap2, asB, chain2, testM, truM, truO, andV, orV, notV, ifV, andB, orB, notB, argN, argC, mkTup, mkLst, frzd, callM, onMs, subsO, lenO, absO, isiO, D.tg, isTy, tgtT, tgtC, tgtN, par2, par3, forS, seqI, srcD, catO, addO, subO, repO, mulO, fdivO, modO, negO, ltO, leO, gtO, geO, cmpI, gcdO, maxO, minO, intO, tupleO, listO]
    · have c1 : (1 : Int) ≤ (xs.length : Int) := by omega
      have c2 : ¬ (xs.length : Int) ≤ 60 := by omega
      simp [f_law_are_masts, m_law_are_masts, c1, c2, fnM, bnd, Mp.ret, lift, stk, seqS, retS, asgS, dropS, ifS, setv, getv, peekv, op1, op2, ap1, ap2, asB, chain2, testM, truM, truO, andV, orV, notV, ifV, andB, orB, notB, argN, argC, mkTup, mkLst, frzd, callM, onMs, subsO, lenO, absO, isiO, D.tg, isTy, tgtT, tgtC, tgtN, par2, par3, forS, seqI, srcD, catO, addO, subO, repO, mulO, fdivO, modO, negO, ltO, leO, gtO, geO, cmpI, gcdO, maxO, minO, intO, tupleO, listO]
  | _ => first
    | (simp [D.tg] at htg; done)
    | (simp [f_law_are_masts, m_law_are_masts, fnM, bnd, Mp.ret, lift, stk, seqS, retS, asgS, dropS, ifS, setv, getv, peekv, op1, op2, ap1, ap2, asB, chain2, testM, truM, truO, andV, orV, notV, ifV, andB, orB, notB, argN, argC, mkTup, mkLst, frzd, callM, onMs, subsO, lenO, absO, isiO, D.tg, isTy, tgtT, tgtC, tgtN, par2, par3, forS, seqI, srcD, catO, addO, subO, repO, mulO, fdivO, modO, negO, ltO, leO, gtO, geO, cmpI, gcdO, maxO, minO, intO, tupleO, listO])
theorem e_are_of (xs : List D) (s : S) (h : gd 3 (.tup xs) = true) (h1 : 1 ≤ xs.length) (h2 : xs.length ≤ 60) :
    (xs.all mastB = false ∧ f_are_masts_of [.tup xs] s = .ok (.bl false) s) ∨ ∃ ms : List Ma, xs = ms.map md ∧ f_are_masts_of [.tup xs] s = .ok (.bl (decide (ms.Nodup))) s := by
  obtain ⟨_, hg⟩ := gd_tup h
  have c1 : (1 : Int) ≤ (xs.length : Int) := by omega
  have c2 : (xs.length : Int) ≤ 60 := by omega
  have hc : c1_are_masts_of ⟨[.val (.tup xs), .un], s.ms⟩ = .ok (xs.map fun y => D.bl (mastB y)) ⟨[.val (.tup xs), .un], s.ms⟩ := by
    have := lcM_pure (vs := [1]) (src := seqI (getv 0)) (t := setv 1) (c := yesM) (f := ce1_are_masts_of) (fun y => some (.bl (mastB y)))
      (s := ⟨[.val (.tup xs), .un], s.ms⟩) (s1 := ⟨[.val (.tup xs), .un], s.ms⟩) (xs := xs) (by simp [fnM, bnd, Mp.ret, lift, stk, seqS, retS, asgS, dropS, ifS, setv, getv, peekv, op1, op2, ap1, ap2, asB, chain2, testM, truM, truO, andV, orV, notV, ifV, andB, orB, notB, argN, argC, mkTup, mkLst, frzd, callM, onMs, subsO, lenO, absO, isiO, D.tg, isTy, tgtT, tgtC, tgtN, par2, par3, forS, seqI, srcD, catO, addO, subO, repO, mulO, fdivO, modO, negO, ltO, leO, gtO, geO, cmpI, gcdO, maxO, minO, intO, tupleO, listO]) (by omega) (by simp) (by
        intro y hy
        have hr := fun s => e_is_mast y s (hg y hy)
        refine ⟨[.val (.tup xs), .val y], ?_, by simp [wipeE]⟩
        simp [lcT, wipeE, yesM, ce1_are_masts_of, hr, fnM, bnd, Mp.ret, lift, stk, seqS, retS, asgS, dropS, ifS, setv, getv, peekv, op1, op2, ap1, ap2, asB, chain2, testM, truM, truO, andV, orV, notV, ifV, andB, orB, notB, argN, argC, mkTup, mkLst, frzd, callM, onMs, subsO, lenO, absO, isiO, D.tg, isTy, tgtT, tgtC, tgtN, par2, par3, forS, seqI, srcD, catO, addO, subO, repO, mulO, fdivO, modO, negO, ltO, leO, gtO, geO, cmpI, gcdO, maxO, minO, intO, tupleO, listO])
    unfold c1_are_masts_of
    rw [this, filterMap_some_map]
    simp [restE, wipeE, keepVal]
  have ha := fun s => all_map mastB xs s
  cases hall : xs.all mastB with
  | false =>
    refine .inl ⟨rfl, ?_⟩
    rw [hall] at ha
    simp [f_are_masts_of, m_are_masts_of, c1, c2, hc, ha, fnM, bnd, Mp.ret, lift, stk, seqS, retS, asgS, dropS, ifS, setv, getv, peekv, op1, op2, ap1, ap2, asB, chain2, testM, truM, truO, andV, orV, notV, ifV, andB, orB, notB, argN, argC, mkTup, mkLst, frzd, callM, onMs, subsO, lenO, absO, isiO, D.tg, isTy, tgtT, tgtC, tgtN, par2, par3, forS, seqI, srcD, catO, addO, subO, repO, mulO, fdivO, modO, negO, ltO, leO, gtO, geO, cmpI, gcdO, maxO, minO, intO, tupleO, listO]
  | true =>
    obtain ⟨ms, rfl⟩ := masts_of hall
    refine .inr ⟨ms, rfl, ?_⟩
    rw [hall] at ha
    rw [List.length_map] at h2
    have hs := fun s => set_len ms (by omega) s
    have e : decide (((dcount (ms.map km) : Nat) : Int) = ((ms.map md).length : Int)) = decide (ms.Nodup) := by
      rw [decide_eq_decide]
      have := dcount_eq (ms.map km)
      rw [List.length_map, map_nodup] at this
      rw [List.length_map, ← this]
      omega
    have hq := fun s => eq_int ((dcount (ms.map km) : Nat) : Int) ((ms.map md).length : Int) s
    simp only [e] at hq
    have hlen : ∀ s, lenO (.tup (ms.map md)) s = some (.int ((ms.map md).length : Int)) := fun _ => rfl
    have hc' : c1_are_masts_of ⟨[.val (.tup (ms.map md)), .un], s.ms⟩ = .ok ((ms.map md).map fun y => D.bl (mastB y)) ⟨[.val (.tup (ms.map md)), .un], s.ms⟩ := hc
    generalize ms.map md = xs at *
    simp [f_are_masts_of, m_are_masts_of, c1, c2, hc', ha, hs, hq, hlen, -lenO, -List.map_map, fnM, bnd, Mp.ret, lift, stk, seqS, retS, asgS, dropS, ifS, setv, getv, peekv, op1, op2, ap1, ap2, asB, chain2, testM, truM, truO, andV, orV, notV, ifV, andB, orB, notB, argN, argC, mkTup, mkLst, frzd, callM, onMs, subsO, lenO, absO, isiO, D.tg, isTy, tgtT, tgtC, tgtN, par2, par3, forS, seqI, srcD, catO, addO, subO, repO, mulO, fdivO, modO, negO, ltO, leO, gtO, geO, cmpI, gcdO, maxO, minO, intO, tupleO, listO]
end K61

set_option linter.all false
set_option maxRecDepth 100000
namespace K61
open Mp
theorem e_law_is_ratio (x : D) (s : S) (h : gd 1 x = true) : f_law_is_ratio [x] s = .ok (.bl (ratioB x)) s := by
  have htg := gd_tg h
  cases x with
  | tup xs =>
    obtain ⟨hl, hg⟩ := gd_tup h
    by_cases c : xs.length = 2
    · obtain ⟨a, b, rfl⟩ : ∃ a b, xs = [a, b] := by
        match xs, c with
        | [a, b], _ => exact ⟨a, b, rfl⟩
      have ga := hg a (by simp)
      have gb := hg b (by simp)
      have hc : c1_law_is_ratio ⟨[.val (.tup [a, b]), .un], s.ms⟩ = .ok ([a, b].map fun y => D.bl (isI y)) ⟨[.val (.tup [a, b]), .un], s.ms⟩ := by
        have := lcM_pure (vs := [1]) (src := seqI (getv 0)) (t := setv 1) (c := yesM) (f := ce1_law_is_ratio) (fun y => some (.bl (isI y)))
          (s := ⟨[.val (.tup [a, b]), .un], s.ms⟩) (s1 := ⟨[.val (.tup [a, b]), .un], s.ms⟩) (xs := [a, b]) (by simp [fnM, bnd, Mp.ret, lift, stk, seqS, retS, asgS, dropS, ifS, setv, getv, peekv, op1, op2, ap1, ap2, asB, chain2, testM, truM, truO, andV, orV, notV, ifV, andB, orB, notB, argN, argC, mkTup, mkLst, frzd, callM, onMs, subsO, lenO, absO, isiO, D.tg, isTy, tgtT, tgtC, tgtN, par2, par3, forS, seqI, srcD, catO, addO, subO, repO, mulO, fdivO, modO, negO, ltO, leO, gtO, geO, cmpI, gcdO, maxO, minO, intO, tupleO, listO]) (by simp) (by simp) (by
            intro y hy
            have hy' : y.tg.isSome = true := gd_tg (hg y hy)
            refine ⟨[.val (.tup [a, b]), .val y], ?_, by simp [wipeE]⟩
            cases y <;> first
              | (simp [D.tg] at hy'; done)
              | (simp [lcT, wipeE, yesM, ce1_law_is_ratio, isI, fnM, bnd, Mp.ret, lift, stk, seqS, retS, asgS, dropS, ifS, setv, getv, peekv, op1, op2, ap1, ap2, asB, chain2, testM, truM, truO, andV, orV, notV, ifV, andB, orB, notB, argN, argC, mkTup, mkLst, frzd, callM, onMs, subsO, lenO, absO, isiO, D.tg, isTy, tgtT, tgtC, tgtN, par2, par3, forS, seqI, srcD, catO, addO, subO, repO, mulO, fdivO, modO, negO, ltO, leO, gtO, geO, cmpI, gcdO, maxO, minO, intO, tupleO, listO]))
        unfold c1_law_is_ratio
        rw [this, filterMap_some_map]
        simp [restE, wipeE, keepVal]
      have ha := fun s => all_map isI [a, b] s
      by_cases ca : isI a = true
      · by_cases cb : isI b = true
        · obtain ⟨i, rfl⟩ : ∃ i, a = .int i := by cases a <;> first | exact ⟨_, rfl⟩ | simp [isI] at ca
          obtain ⟨j, rfl⟩ : ∃ j, b = .int j := by cases b <;> first | exact ⟨_, rfl⟩ | simp [isI] at cb
          have e2 : ([D.int i, D.int j].all isI) = true := rfl
          rw [e2] at ha
          by_cases c1 : 0 < j
          · have hj : j.natAbs < 2 ^ 100 := by
              have := gd_small gb
              simpa [small] using this
            have hlow := fun s => e_law_low i j s c1 hj (by decide)
            have heq : ∀ s, eqO (rd (Rat.divInt i j)) (.tup [.int i, .int j]) s = some (.bl (decide (Nat.gcd i.natAbs j.natAbs = 1))) := by
              intro s
              have hs : ∀ a b : Int, PySem.SeqAt.shaped (.tuple [.int a, .int b]) = true := fun a b => by
                simp [PySem.SeqAt.shaped, PySem.PyData.canLay0, PySem.PyData.canLayAll0, PySem.PyData.depth, PySem.PyData.depthAll]
              have e3 : eqO (rd (Rat.divInt i j)) (.tup [.int i, .int j]) s = some (.bl (PySem.PyData.eqv (.tuple [.int (Rat.divInt i j).num, .int (Rat.divInt i j).den]) (.tuple [.int i, .int j]))) := by
                unfold eqO eqD rd
                simp only
                rw [show (D.tup [.int (Rat.divInt i j).num, .int ((Rat.divInt i j).den : Int)]).py = some (.tuple [.int (Rat.divInt i j).num, .int (Rat.divInt i j).den]) from rfl, show (D.tup [.int i, .int j]).py = some (.tuple [.int i, .int j]) from rfl]
                simp only [hs, Bool.and_self, if_true, Option.map_some]
              rw [e3]
              congr 2
              rw [Bool.eq_iff_iff, decide_eq_true_eq]
              simp only [PySem.PyData.eqv, PySem.PyData.eqvAll, Bool.and_true, Bool.and_eq_true, beq_iff_eq]
              rw [← num_low c1, ← den_low c1]
              have gp := gcd_pos (n := i) c1
              constructor
              · rintro ⟨_, h2⟩
                have hd : ((Nat.gcd i.natAbs j.natAbs : Nat) : Int) ∣ j := by
                  have := Nat.gcd_dvd_right i.natAbs j.natAbs
                  exact Int.ofNat_dvd_left.mpr this
                rw [Int.fdiv_eq_ediv_of_dvd hd] at h2
                have h3 := Int.ediv_mul_cancel hd
                rw [h2] at h3
                have h4 : j * (((Nat.gcd i.natAbs j.natAbs : Nat) : Int) - 1) = 0 := by grind
                rcases Int.mul_eq_zero.mp h4 with e | e
                · omega
                · omega
              · intro h
                rw [h]
                simp
            have e4 : ratioB (.tup [.int i, .int j]) = decide (Nat.gcd i.natAbs j.natAbs = 1) := by
              have : decide (1 ≤ j) = true := decide_eq_true (by omega)
              simp only [ratioB, this, Bool.true_and]
            rw [e4]
            have e5 : ([D.int i, D.int j].map fun y => D.bl (isI y)) = [.bl true, .bl true] := rfl
            simp [f_law_is_ratio, m_law_is_ratio, ne_int, hc, ha, e5, at0, at1, c1, hlow, heq, isI, allO, bools, fnM, bnd, Mp.ret, lift, stk, seqS, retS, asgS, dropS, ifS, setv, getv, peekv, op1, op2, ap1, ap2, asB, chain2, testM, truM, truO, andV, orV, notV, ifV, andB, orB, notB, argN, argC, mkTup, mkLst, frzd, callM, onMs, subsO, lenO, absO, isiO, D.tg, isTy, tgtT, tgtC, tgtN, par2, par3, forS, seqI, srcD, catO, addO, subO, repO, mulO, fdivO, modO, negO, ltO, leO, gtO, geO, cmpI, gcdO, maxO, minO, intO, tupleO, listO]
          · have e4 : ratioB (.tup [.int i, .int j]) = false := by
              have : decide (1 ≤ j) = false := decide_eq_false (by omega)
              simp only [ratioB, this, Bool.false_and]
            rw [e4]
            simp [f_law_is_ratio, m_law_is_ratio, ne_int, hc, at0, at1, c1, isI, allO, bools, fnM, bnd, Mp.ret, lift, stk, seqS, retS, asgS, dropS, ifS, setv, getv, peekv, op1, op2, ap1, ap2, asB, chain2, testM, truM, truO, andV, orV, notV, ifV, andB, orB, notB, argN, argC, mkTup, mkLst, frzd, callM, onMs, subsO, lenO, absO, isiO, D.tg, isTy, tgtT, tgtC, tgtN, par2, par3, forS, seqI, srcD, catO, addO, subO, repO, mulO, fdivO, modO, negO, ltO, leO, gtO, geO, cmpI, gcdO, maxO, minO, intO, tupleO, listO]
        · have e : ratioB (.tup [a, b]) = false := by
            cases b <;> first
              | (cases a <;> rfl)
              | simp [isI] at cb
          rw [e]
          simp [f_law_is_ratio, m_law_is_ratio, ne_int, hc, ca, cb, allO, bools, fnM, bnd, Mp.ret, lift, stk, seqS, retS, asgS, dropS, ifS, setv, getv, peekv, op1, op2, ap1, ap2, asB, chain2, testM, truM, truO, andV, orV, notV, ifV, andB, orB, notB, argN, argC, mkTup, mkLst, frzd, callM, onMs, subsO, lenO, absO, isiO, D.tg, isTy, tgtT, tgtC, tgtN, par2, par3, forS, seqI, srcD, catO, addO, subO, repO, mulO, fdivO, modO, negO, ltO, leO, gtO, geO, cmpI, gcdO, maxO, minO, intO, tupleO, listO]
      · have e : ratioB (.tup [a, b]) = false := by
          cases a <;> first
            | rfl
            | simp [isI] at ca
        rw [e]
        simp [f_law_is_ratio, m_law_is_ratio, ne_int, hc, ca, allO, bools, fnM, bnd, Mp.ret, lift, stk, seqS, retS, asgS, dropS, ifS, setv, getv, peekv, op1, op2, ap1, ap2, asB, chain2, testM, truM, truO, andV, orV, notV, ifV, andB, orB, notB, argN, argC, mkTup, mkLst, frzd, callM, onMs, subsO, lenO, absO, isiO, D.tg, isTy, tgtT, tgtC, tgtN, par2, par3, forS, seqI, srcD, catO, addO, subO, repO, mulO, fdivO, modO, negO, ltO, leO, gtO, geO, cmpI, gcdO, maxO, minO, intO, tupleO, listO]
    · have e : ratioB (.tup xs) = false := by
        match xs with
        | [a, b] => simp at c
        | [] => rfl
        | [a] => cases a <;> rfl
        | a :: b :: d :: r => cases a <;> first | rfl | (cases b <;> rfl)
      rw [e]
      have c' : ¬ ((xs.length : Nat) : Int) = 2 := by omega
      simp [f_law_is_ratio, m_law_is_ratio, ne_int, c', fnM, bnd, Mp.ret, lift, stk, seqS, retS, asgS, dropS, ifS, setv, getv, peekv, op1, op2, ap1, ap2, asB, chain2, testM, truM, truO, andV, orV, notV, ifV, andB, orB, notB, argN, argC, mkTup, mkLst, frzd, callM, onMs, subsO, lenO, absO, isiO, D.tg, isTy, tgtT, tgtC, tgtN, par2, par3, forS, seqI, srcD, catO, addO, subO, repO, mulO, fdivO, modO, negO, ltO, leO, gtO, geO, cmpI, gcdO, maxO, minO, intO, tupleO, listO]
  | _ => first
    | (simp [D.tg] at htg; done)
    | (simp [f_law_is_ratio, m_law_is_ratio, ratioB, fnM, bnd, Mp.ret, lift, stk, seqS, retS, asgS, dropS, ifS, setv, getv, peekv, op1, op2, ap1, ap2, asB, chain2, testM, truM, truO, andV, orV, notV, ifV, andB, orB, notB, argN, argC, mkTup, mkLst, frzd, callM, onMs, subsO, lenO, absO, isiO, D.tg, isTy, tgtT, tgtC, tgtN, par2, par3, forS, seqI, srcD, catO, addO, subO, repO, mulO, fdivO, modO, negO, ltO, leO, gtO, geO, cmpI, gcdO, maxO, minO, intO, tupleO, listO])
end K61

set_option linter.all false
set_option maxRecDepth 100000
namespace K61
open Mp
theorem cut_take {α : Type} (xs : List α) (i : Nat) : cutD xs none (some (i : Int)) = xs.take i := by
  unfold cutD
  rw [HT.sIx_none, HT.sIx_nat, List.drop_zero, Nat.sub_zero]
  by_cases h : i ≤ xs.length
  · rw [Nat.min_eq_left h]
  · rw [Nat.min_eq_right (by omega), List.take_length, List.take_of_length_le (by omega)]
theorem nodup_take (ms : List Ma) (d : Ma) : ((List.range ms.length).all fun i => decide (ms.getD i d ∉ ms.take i)) = decide ms.Nodup := by
  rw [Bool.eq_iff_iff, List.all_eq_true, decide_eq_true_eq]
  unfold List.Nodup
  rw [List.pairwise_iff_getElem]
  constructor
  · intro h i j hi hj hij e
    have := h j (List.mem_range.mpr hj)
    rw [decide_eq_true_eq, List.getD_eq_getElem?_getD, List.getElem?_eq_getElem hj] at this
    apply this
    rw [Option.getD_some, ← e]
    rw [List.mem_take_iff_getElem]
    exact ⟨i, by omega, rfl⟩
  · intro h j hj
    have hj := List.mem_range.mp hj
    rw [decide_eq_true_eq, List.getD_eq_getElem?_getD, List.getElem?_eq_getElem hj, Option.getD_some]
    intro hm
    rw [List.mem_take_iff_getElem] at hm
    obtain ⟨i, hi, e⟩ := hm
    exact h i j (by omega) hj (by omega) e
def partsB (x : D) : Bool := match x with
  | .tup xs => xs.all ratioB
  | _ => false
theorem e_lb1 (v x : D) (e2 e3 : Sl) (ms : List (List D)) (h : gd 2 x = true) : ∃ e2', lb1_law_are_masts ⟨[.val v, .val x, e2, e3], ms⟩ = .ok (if mastB x then .nx else .ret (.bl false)) ⟨[.val v, .val x, e2', e3], ms⟩ := by
  have htg := gd_tg h
  cases x with
  | tup xs =>
    obtain ⟨hl, hg⟩ := gd_tup h
    by_cases c : xs.length = 3
    · have hc : c2_law_are_masts ⟨[.val v, .val (.tup xs), e2, e3], ms⟩ = .ok (xs.map fun y => D.bl (ratioB y)) ⟨restE [.val v, .val (.tup xs), e2, e3] (wipeE [.val v, .val (.tup xs), e2, e3] [2]) [2], ms⟩ := by
        have := lcM_pure (vs := [2]) (src := seqI (getv 1)) (t := setv 2) (c := yesM) (f := ce2_law_are_masts) (fun y => some (.bl (ratioB y)))
          (s := ⟨[.val v, .val (.tup xs), e2, e3], ms⟩) (s1 := ⟨[.val v, .val (.tup xs), e2, e3], ms⟩) (xs := xs) (by simp [fnM, bnd, Mp.ret, lift, stk, seqS, retS, asgS, dropS, ifS, setv, getv, peekv, op1, op2, ap1, ap2, asB, chain2, testM, truM, truO, andV, orV, notV, ifV, andB, orB, notB, argN, argC, mkTup, mkLst, frzd, callM, onMs, subsO, lenO, absO, isiO, D.tg, isTy, tgtT, tgtC, tgtN, par2, par3, forS, seqI, srcD, catO, addO, subO, repO, mulO, fdivO, modO, negO, ltO, leO, gtO, geO, cmpI, gcdO, maxO, minO, intO, tupleO, listO]) (by omega) (by simp) (by
            intro y hy
            have hr := fun s => e_law_is_ratio y s (hg y hy)
            refine ⟨[.val v, .val (.tup xs), .val y, e3], ?_, by simp [wipeE]⟩
            simp [lcT, wipeE, yesM, ce2_law_are_masts, hr, fnM, bnd, Mp.ret, lift, stk, seqS, retS, asgS, dropS, ifS, setv, getv, peekv, op1, op2, ap1, ap2, asB, chain2, testM, truM, truO, andV, orV, notV, ifV, andB, orB, notB, argN, argC, mkTup, mkLst, frzd, callM, onMs, subsO, lenO, absO, isiO, D.tg, isTy, tgtT, tgtC, tgtN, par2, par3, forS, seqI, srcD, catO, addO, subO, repO, mulO, fdivO, modO, negO, ltO, leO, gtO, geO, cmpI, gcdO, maxO, minO, intO, tupleO, listO])
        unfold c2_law_are_masts
        rw [this, filterMap_some_map]
      have ha := fun s => all_map ratioB xs s
      have e : mastB (.tup xs) = xs.all ratioB := by simp [mastB, c]
      have c' : ((xs.length : Nat) : Int) = 3 := by omega
      rw [e]
      refine ⟨keepVal (some e2), ?_⟩
      cases hall : xs.all ratioB with
      | true =>
        rw [hall] at ha
        simp [lb1_law_are_masts, ne_int, c', hc, ha, restE, wipeE, fnM, bnd, Mp.ret, lift, stk, seqS, retS, asgS, dropS, ifS, setv, getv, peekv, op1, op2, ap1, ap2, asB, chain2, testM, truM, truO, andV, orV, notV, ifV, andB, orB, notB, argN, argC, mkTup, mkLst, frzd, callM, onMs, subsO, lenO, absO, isiO, D.tg, isTy, tgtT, tgtC, tgtN, par2, par3, forS, seqI, srcD, catO, addO, subO, repO, mulO, fdivO, modO, negO, ltO, leO, gtO, geO, cmpI, gcdO, maxO, minO, intO, tupleO, listO]
      | false =>
        rw [hall] at ha
        simp [lb1_law_are_masts, ne_int, c', hc, ha, restE, wipeE, fnM, bnd, Mp.ret, lift, stk, seqS, retS, asgS, dropS, ifS, setv, getv, peekv, op1, op2, ap1, ap2, asB, chain2, testM, truM, truO, andV, orV, notV, ifV, andB, orB, notB, argN, argC, mkTup, mkLst, frzd, callM, onMs, subsO, lenO, absO, isiO, D.tg, isTy, tgtT, tgtC, tgtN, par2, par3, forS, seqI, srcD, catO, addO, subO, repO, mulO, fdivO, modO, negO, ltO, leO, gtO, geO, cmpI, gcdO, maxO, minO, intO, tupleO, listO]
    · have e : mastB (.tup xs) = false := by simp [mastB, c]
      have c' : ¬ ((xs.length : Nat) : Int) = 3 := by omega
      rw [e]
      exact ⟨e2, by simp [lb1_law_are_masts, ne_int, c', fnM, bnd, Mp.ret, lift, stk, seqS, retS, asgS, dropS, ifS, setv, getv, peekv, op1, op2, ap1, ap2, asB, chain2, testM, truM, truO, andV, orV, notV, ifV, andB, orB, notB, argN, argC, mkTup, mkLst, frzd, callM, onMs, subsO, lenO, absO, isiO, D.tg, isTy, tgtT, tgtC, tgtN, par2, par3, forS, seqI, srcD, catO, addO, subO, repO, mulO, fdivO, modO, negO, ltO, leO, gtO, geO, cmpI, gcdO, maxO, minO, intO, tupleO, listO]⟩
  | _ => first
    | (simp [D.tg] at htg; done)
    | exact ⟨e2, by simp [lb1_law_are_masts, mastB, fnM, bnd, Mp.ret, lift, stk, seqS, retS, asgS, dropS, ifS, setv, getv, peekv, op1, op2, ap1, ap2, asB, chain2, testM, truM, truO, andV, orV, notV, ifV, andB, orB, notB, argN, argC, mkTup, mkLst, frzd, callM, onMs, subsO, lenO, absO, isiO, D.tg, isTy, tgtT, tgtC, tgtN, par2, par3, forS, seqI, srcD, catO, addO, subO, repO, mulO, fdivO, modO, negO, ltO, leO, gtO, geO, cmpI, gcdO, maxO, minO, intO, tupleO, listO]⟩
theorem loop_are (v : D) (e3 : Sl) (ms : List (List D)) : ∀ (xs : List D) (e1 e2 : Sl), (∀ x ∈ xs, gd 2 x = true) → ∃ e1' e2', forL (setv 1) lb1_law_are_masts xs ⟨[.val v, e1, e2, e3], ms⟩ = .ok (if xs.all mastB then .nx else .ret (.bl false)) ⟨[.val v, e1', e2', e3], ms⟩
  | [], e1, e2, _ => ⟨e1, e2, rfl⟩
  | x :: xs, e1, e2, h => by
    obtain ⟨f2, hb⟩ := e_lb1 v x e2 e3 ms (h x List.mem_cons_self)
    cases hm : mastB x with
    | true =>
      rw [hm] at hb
      obtain ⟨g1, g2, hl⟩ := loop_are v e3 ms xs (.val x) f2 fun y hy => h y (List.mem_cons_of_mem _ hy)
      refine ⟨g1, g2, ?_⟩
      rw [forL_step (s1 := ⟨[.val v, .val x, e2, e3], ms⟩) (s2 := ⟨[.val v, .val x, f2, e3], ms⟩) (by simp [fnM, bnd, Mp.ret, lift, stk, seqS, retS, asgS, dropS, ifS, setv, getv, peekv, op1, op2, ap1, ap2, asB, chain2, testM, truM, truO, andV, orV, notV, ifV, andB, orB, notB, argN, argC, mkTup, mkLst, frzd, callM, onMs, subsO, lenO, absO, isiO, D.tg, isTy, tgtT, tgtC, tgtN, par2, par3, forS, seqI, srcD, catO, addO, subO, repO, mulO, fdivO, modO, negO, ltO, leO, gtO, geO, cmpI, gcdO, maxO, minO, intO, tupleO, listO]) hb, hl, List.all_cons, hm]
      rfl
    | false =>
      rw [hm] at hb
      refine ⟨.val x, f2, ?_⟩
      have hset : setv 1 x ⟨[.val v, e1, e2, e3], ms⟩ = .ok () ⟨[.val v, .val x, e2, e3], ms⟩ := by simp [fnM, bnd, Mp.ret, lift, stk, seqS, retS, asgS, dropS, ifS, setv, getv, peekv, op1, op2, ap1, ap2, asB, chain2, testM, truM, truO, andV, orV, notV, ifV, andB, orB, notB, argN, argC, mkTup, mkLst, frzd, callM, onMs, subsO, lenO, absO, isiO, D.tg, isTy, tgtT, tgtC, tgtN, par2, par3, forS, seqI, srcD, catO, addO, subO, repO, mulO, fdivO, modO, negO, ltO, leO, gtO, geO, cmpI, gcdO, maxO, minO, intO, tupleO, listO]
      unfold forL bnd
      rw [hset]
      simp only
      rw [hb, List.all_cons, hm]
      rfl
theorem getD_md {ms : List Ma} {i : Nat} (h : i < ms.length) : (ms.map md).getD i .non = md (ms.getD i ⟨0, 0, 0⟩) := by
  rw [List.getD_eq_getElem?_getD, List.getD_eq_getElem?_getD, List.getElem?_map, List.getElem?_eq_getElem h]
  rfl
theorem e_law_are_of (xs : List D) (s : S) (h : gd 3 (.tup xs) = true) (h1 : 1 ≤ xs.length) (h2 : xs.length ≤ 60) :
    (xs.all mastB = false ∧ f_law_are_masts [.tup xs] s = .ok (.bl false) s) ∨ ∃ ms : List Ma, xs = ms.map md ∧ f_law_are_masts [.tup xs] s = .ok (.bl (decide (ms.Nodup))) s := by
  obtain ⟨_, hg⟩ := gd_tup h
  have c1 : (1 : Int) ≤ (xs.length : Int) := by omega
  have c2 : (xs.length : Int) ≤ 60 := by omega
  obtain ⟨e1', e2', hl⟩ := loop_are (.tup xs) .un s.ms xs .un .un hg
  cases hall : xs.all mastB with
  | false =>
    refine .inl ⟨rfl, ?_⟩
    rw [hall] at hl
    simp only [Bool.false_eq_true, if_false] at hl
    simp [f_law_are_masts, m_law_are_masts, l1_law_are_masts, c1, c2, hl, fnM, bnd, Mp.ret, lift, stk, seqS, retS, asgS, dropS, ifS, setv, getv, peekv, op1, op2, ap1, ap2, asB, chain2, testM, truM, truO, andV, orV, notV, ifV, andB, orB, notB, argN, argC, mkTup, mkLst, frzd, callM, onMs, subsO, lenO, absO, isiO, D.tg, isTy, tgtT, tgtC, tgtN, par2, par3, forS, seqI, srcD, catO, addO, subO, repO, mulO, fdivO, modO, negO, ltO, leO, gtO, geO, cmpI, gcdO, maxO, minO, intO, tupleO, listO]
  | true =>
    rw [hall] at hl
    simp only [if_true] at hl
    obtain ⟨ms, rfl⟩ := masts_of hall
    refine .inr ⟨ms, rfl, ?_⟩
    have hlen : (ms.map md).length = ms.length := List.length_map ..
    have hc : c1_law_are_masts ⟨[.val (.tup (ms.map md)), e1', e2', .un], s.ms⟩ = .ok ((List.range ms.length).map fun i => D.bl (decide (ms.getD i ⟨0, 0, 0⟩ ∉ ms.take i))) ⟨restE [.val (.tup (ms.map md)), e1', e2', .un] (wipeE [.val (.tup (ms.map md)), e1', e2', .un] [3, 1]) [3, 1], s.ms⟩ := by
      have := lcM_map (fun i : Nat => D.tup [.int (i : Nat), (ms.map md).getD i .non]) (List.range ms.length) (vs := [3, 1]) (src := overA enumO (argC (getv 0) argN)) (t := tgtT 2 (tgtC (setv 3) (tgtC (setv 1) tgtN))) (c := yesM) (f := ce1_law_are_masts)
        (fun i => some (D.bl (decide (ms.getD i ⟨0, 0, 0⟩ ∉ ms.take i))))
        (s := ⟨[.val (.tup (ms.map md)), e1', e2', .un], s.ms⟩) (by simp [overA, enumO, enumL, fnM, bnd, Mp.ret, lift, stk, seqS, retS, asgS, dropS, ifS, setv, getv, peekv, op1, op2, ap1, ap2, asB, chain2, testM, truM, truO, andV, orV, notV, ifV, andB, orB, notB, argN, argC, mkTup, mkLst, frzd, callM, onMs, subsO, lenO, absO, isiO, D.tg, isTy, tgtT, tgtC, tgtN, par2, par3, forS, seqI, srcD, catO, addO, subO, repO, mulO, fdivO, modO, negO, ltO, leO, gtO, geO, cmpI, gcdO, maxO, minO, intO, tupleO, listO]) (by rw [List.length_range]; omega) (by simp) (by
          intro i hi
          have hlt : i < ms.length := List.mem_range.mp hi
          have hn := fun s => nin_md (ms.getD i ⟨0, 0, 0⟩) (ms.take i) s
          rw [List.map_take] at hn
          rw [getD_md hlt]
          generalize ms.getD i ⟨0, 0, 0⟩ = m at hn
          have hcut := cut_take (ms.map md) i
          refine ⟨[.val (.tup (ms.map md)), .val (md m), e2', .val (.int (i : Nat))], ?_, by simp [wipeE]⟩
          generalize ms.map md = ys at *
          simp [lcT, wipeE, yesM, ce1_law_are_masts, sliceM, partN, partS, slO, hcut, hn, fnM, bnd, Mp.ret, lift, stk, seqS, retS, asgS, dropS, ifS, setv, getv, peekv, op1, op2, ap1, ap2, asB, chain2, testM, truM, truO, andV, orV, notV, ifV, andB, orB, notB, argN, argC, mkTup, mkLst, frzd, callM, onMs, subsO, lenO, absO, isiO, D.tg, isTy, tgtT, tgtC, tgtN, par2, par3, forS, seqI, srcD, catO, addO, subO, repO, mulO, fdivO, modO, negO, ltO, leO, gtO, geO, cmpI, gcdO, maxO, minO, intO, tupleO, listO])
      unfold c1_law_are_masts
      rw [this, filterMap_some_map]
    have ha := fun s => all_map (fun i => decide (ms.getD i ⟨0, 0, 0⟩ ∉ ms.take i)) (List.range ms.length) s
    rw [nodup_take] at ha
    obtain ⟨bs, hbs⟩ : ∃ bs, bs = (List.range ms.length).map fun i => D.bl (decide (ms.getD i ⟨0, 0, 0⟩ ∉ ms.take i)) := ⟨_, rfl⟩
    have ha : ∀ s, allO (.lst bs) s = some (.bl (decide ms.Nodup)) := by rw [hbs]; exact ha
    rw [← hbs] at hc
    clear hbs
    generalize hys : ms.map md = ys at *
    simp [f_law_are_masts, m_law_are_masts, l1_law_are_masts, c1, c2, hl, hc, ha, fnM, bnd, Mp.ret, lift, stk, seqS, retS, asgS, dropS, ifS, setv, getv, peekv, op1, op2, ap1, ap2, asB, chain2, testM, truM, truO, andV, orV, notV, ifV, andB, orB, notB, argN, argC, mkTup, mkLst, frzd, callM, onMs, subsO, lenO, absO, isiO, D.tg, isTy, tgtT, tgtC, tgtN, par2, par3, forS, seqI, srcD, catO, addO, subO, repO, mulO, fdivO, modO, negO, ltO, leO, gtO, geO, cmpI, gcdO, maxO, minO, intO, tupleO, listO]
/-- both say the same -/
theorem e_are (x : D) (h : gd 3 x = true) : ∃ b : Bool, (∀ s, f_are_masts_of [x] s = .ok (.bl b) s) ∧ ∀ s, f_law_are_masts [x] s = .ok (.bl b) s := by
  cases hs : sizeOk x with
  | false => exact ⟨false, fun s => e_are_of_no x s h hs, fun s => e_law_are_no x s h hs⟩
  | true =>
    obtain ⟨xs, rfl⟩ : ∃ xs, x = .tup xs := by cases x <;> first | exact ⟨_, rfl⟩ | simp [sizeOk] at hs
    simp only [sizeOk, Bool.and_eq_true, decide_eq_true_eq] at hs
    cases hall : xs.all mastB with
    | false =>
      refine ⟨false, fun s => ?_, fun s => ?_⟩
      · rcases e_are_of xs s h hs.1 hs.2 with ⟨_, e⟩ | ⟨ms, rfl, _⟩
        · exact e
        · have : (ms.map md).all mastB = true := by
            rw [List.all_map, List.all_eq_true]
            intro m _
            exact mastB_md m
          rw [this] at hall
          cases hall
      · rcases e_law_are_of xs s h hs.1 hs.2 with ⟨_, e⟩ | ⟨ms, rfl, _⟩
        · exact e
        · have : (ms.map md).all mastB = true := by
            rw [List.all_map, List.all_eq_true]
            intro m _
            exact mastB_md m
          rw [this] at hall
          cases hall
    | true =>
      obtain ⟨ms, rfl⟩ := masts_of hall
      have inj : ∀ {ns : List Ma}, ms.map md = ns.map md → ns = ms := fun {ns} e => by
        have : ∀ (a b : List Ma), a.map md = b.map md → b = a := by
          intro a
          induction a with
          | nil => intro b e; cases b with | nil => rfl | cons => simp at e
          | cons x a ih =>
            intro b e
            cases b with
            | nil => simp at e
            | cons y b =>
              rw [List.map_cons, List.map_cons] at e
              injection e with e1 e2
              rw [ih b e2, md_inj e1]
        exact this _ _ e
      refine ⟨decide ms.Nodup, fun s => ?_, fun s => ?_⟩
      · rcases e_are_of _ s h hs.1 hs.2 with ⟨e, _⟩ | ⟨ns, hn, e⟩
        · rw [hall] at e; cases e
        · rw [inj hn] at e; exact e
      · rcases e_law_are_of _ s h hs.1 hs.2 with ⟨e, _⟩ | ⟨ns, hn, e⟩
        · rw [hall] at e; cases e
        · rw [inj hn] at e; exact e
end K61

set_option linter.all false
set_option maxRecDepth 100000
namespace K61
open Mp
theorem gd_rd {q : Rat} (h : Bd 100 q) (k : Nat) : gd (k + 1) (rd q) = true := by
  have h1 : q.num.natAbs < 2 ^ 100 := h.1
  have h2 : q.den < 2 ^ 100 := h.2
  have e1 : gd k (.int q.num) = true := by
    cases k <;> simp [gd, D.tg, small, h1]
  have e2 : gd k (.int (q.den : Int)) = true := by
    cases k <;> simp [gd, D.tg, small, h2]
  simp [gd, rd, D.tg, small, e1, e2]
theorem gd_md {m : Ma} (h : BM 100 m) (k : Nat) : gd (k + 2) (md m) = true := by
  have h1 := gd_rd h.1 k
  have h2 := gd_rd h.2.1 k
  have h3 := gd_rd h.2.2 k
  unfold gd md
  simp [D.tg, small, h1, h2, h3]
theorem gd_ms {ms : List Ma} (h : ∀ m ∈ ms, BM 100 m) (hl : ms.length ≤ 100) (k : Nat) : gd (k + 3) (.tup (ms.map md)) = true := by
  have : (ms.map md).all (gd (k + 2)) = true := by
    rw [List.all_eq_true]
    intro x hx
    obtain ⟨m, hm, rfl⟩ := List.mem_map.mp hx
    exact gd_md (h m hm) k
  unfold gd
  simp only [List.length_map, hl, decide_true, this, D.tg, small]
  rfl
structure VM (ms : List Ma) : Prop where
  ne : ms ≠ []
  len : ms.length ≤ 60
  nd : ms.Nodup
  bd : ∀ m ∈ ms, BM 20 m
theorem BM.mono {n k : Nat} {m : Ma} (h : BM n m) (e : n ≤ k) : BM k m := ⟨h.1.mono e, h.2.1.mono e, h.2.2.mono e⟩
theorem VM.gd {ms : List Ma} (v : VM ms) : gd 3 (.tup (ms.map md)) = true := gd_ms (fun m hm => (v.bd m hm).mono (by decide)) (by have := v.len; omega) 0
theorem e_are_valid {ms : List Ma} (v : VM ms) (s : S) : f_are_masts_of [.tup (ms.map md)] s = .ok (.bl true) s := by
  have h1 : 1 ≤ (ms.map md).length := by
    rw [List.length_map]
    have := v.ne
    cases ms with
    | nil => exact absurd rfl this
    | cons a b => simp
  rcases e_are_of _ s v.gd h1 (by rw [List.length_map]; exact v.len) with ⟨e, _⟩ | ⟨ns, hn, e⟩
  · have : (ms.map md).all mastB = true := by
      rw [List.all_map, List.all_eq_true]
      intro m _
      exact mastB_md m
    rw [this] at e
    cases e
  · have inj : ∀ (a b : List Ma), a.map md = b.map md → b = a := by
      intro a
      induction a with
      | nil => intro b e; cases b with | nil => rfl | cons => simp at e
      | cons x a ih =>
        intro b e
        cases b with
        | nil => simp at e
        | cons y b =>
          rw [List.map_cons, List.map_cons] at e
          injection e with e1 e2
          rw [ih b e2, md_inj e1]
    rw [inj _ _ hn, decide_eq_true v.nd] at e
    exact e
theorem e_want_masts {ms : List Ma} (v : VM ms) (s : S) : f_want_masts [.tup (ms.map md)] s = .ok (.tup (ms.map md)) s := by
  have h := fun s => e_are_valid v s
  generalize ms.map md = xs at h
  simp [f_want_masts, m_want_masts, h, fnM, bnd, Mp.ret, lift, stk, seqS, retS, asgS, dropS, ifS, setv, getv, peekv, op1, op2, ap1, ap2, asB, chain2, testM, truM, truO, andV, orV, notV, ifV, andB, orB, notB, argN, argC, mkTup, mkLst, frzd, callM, onMs, subsO, lenO, absO, isiO, D.tg, isTy, tgtT, tgtC, tgtN, par2, par3, forS, seqI, srcD, catO, addO, subO, repO, mulO, fdivO, modO, negO, ltO, leO, gtO, geO, cmpI, gcdO, maxO, minO, intO, tupleO, listO]
theorem e_is_place {p : Rat × Rat} (h : BP 100 p) (s : S) : f_is_place [pd p] s = .ok (.bl true) s := by
  have h1 := fun s => e_is_ratio (rd p.1) s (gd_rd h.1 0)
  have h2 := fun s => e_is_ratio (rd p.2) s (gd_rd h.2 0)
  rw [ratioB_rd] at h1 h2
  have h3 := fun s => e_is_row (pd p) 2 s rfl
  have e : isRow (pd p) 2 = true := rfl
  rw [e] at h3
  have e2 : pd p = .tup [rd p.1, rd p.2] := rfl
  rw [e2] at h3 ⊢
  have h3 : ∀ s, f_is_row [.tup [rd p.1, rd p.2], .int 2] s = .ok (.bl true) s := h3
  simp [f_is_place, m_is_place, h1, h2, h3, at0, at1, fnM, bnd, Mp.ret, lift, stk, seqS, retS, asgS, dropS, ifS, setv, getv, peekv, op1, op2, ap1, ap2, asB, chain2, testM, truM, truO, andV, orV, notV, ifV, andB, orB, notB, argN, argC, mkTup, mkLst, frzd, callM, onMs, subsO, lenO, absO, isiO, D.tg, isTy, tgtT, tgtC, tgtN, par2, par3, forS, seqI, srcD, catO, addO, subO, repO, mulO, fdivO, modO, negO, ltO, leO, gtO, geO, cmpI, gcdO, maxO, minO, intO, tupleO, listO]
theorem e_want_place {p : Rat × Rat} (h : BP 100 p) (s : S) : f_want_place [pd p] s = .ok (pd p) s := by
  have h1 := fun s => e_is_place h s
  generalize pd p = x at h1
  simp [f_want_place, m_want_place, h1, fnM, bnd, Mp.ret, lift, stk, seqS, retS, asgS, dropS, ifS, setv, getv, peekv, op1, op2, ap1, ap2, asB, chain2, testM, truM, truO, andV, orV, notV, ifV, andB, orB, notB, argN, argC, mkTup, mkLst, frzd, callM, onMs, subsO, lenO, absO, isiO, D.tg, isTy, tgtT, tgtC, tgtN, par2, par3, forS, seqI, srcD, catO, addO, subO, repO, mulO, fdivO, modO, negO, ltO, leO, gtO, geO, cmpI, gcdO, maxO, minO, intO, tupleO, listO]
theorem e_shown {q : Rat} (h : Bd 1000 q) (s : S) : f_shown [rd q] s = .ok (rd q) s := by
  have hb : ∀ i : Int, i.natAbs < 2 ^ 1000 → ¬ k_BOUND ≤ i ∧ ¬ k_BOUND ≤ -i := fun i hi => by
    have h2 : (2 : Nat) ^ 1000 < 10 ^ 302 := by decide
    have h3 : (10 : Int) ^ 302 < k_BOUND := by decide
    have h4 : (10 : Int) ^ 302 = ((10 ^ 302 : Nat) : Int) := by decide
    omega
  have b1 := hb q.den (by simpa using h.2)
  have b2 := hb q.num h.1
  generalize hK : (k_BOUND : Int) = KB at b1 b2
  have n1 : ¬ (KB ≤ if q.num < 0 then -q.num else q.num) := by split <;> omega
  simp [f_shown, m_shown, rd, at0, at1, hK, b1.1, n1, fnM, bnd, Mp.ret, lift, stk, seqS, retS, asgS, dropS, ifS, setv, getv, peekv, op1, op2, ap1, ap2, asB, chain2, testM, truM, truO, andV, orV, notV, ifV, andB, orB, notB, argN, argC, mkTup, mkLst, frzd, callM, onMs, subsO, lenO, absO, isiO, D.tg, isTy, tgtT, tgtC, tgtN, par2, par3, forS, seqI, srcD, catO, addO, subO, repO, mulO, fdivO, modO, negO, ltO, leO, gtO, geO, cmpI, gcdO, maxO, minO, intO, tupleO, listO]
theorem e_is_within (i lo hi : Int) (s : S) : f_is_within [.int i, .int lo, .int hi] s = .ok (.bl (decide (lo ≤ i) && decide (i ≤ hi))) s := by
  have h1 := fun s => e_is_integer (.int i) s rfl
  by_cases c : lo ≤ i
  · simp [f_is_within, m_is_within, h1, isI, c, fnM, bnd, Mp.ret, lift, stk, seqS, retS, asgS, dropS, ifS, setv, getv, peekv, op1, op2, ap1, ap2, asB, chain2, testM, truM, truO, andV, orV, notV, ifV, andB, orB, notB, argN, argC, mkTup, mkLst, frzd, callM, onMs, subsO, lenO, absO, isiO, D.tg, isTy, tgtT, tgtC, tgtN, par2, par3, forS, seqI, srcD, catO, addO, subO, repO, mulO, fdivO, modO, negO, ltO, leO, gtO, geO, cmpI, gcdO, maxO, minO, intO, tupleO, listO]
  · simp [f_is_within, m_is_within, h1, isI, c, fnM, bnd, Mp.ret, lift, stk, seqS, retS, asgS, dropS, ifS, setv, getv, peekv, op1, op2, ap1, ap2, asB, chain2, testM, truM, truO, andV, orV, notV, ifV, andB, orB, notB, argN, argC, mkTup, mkLst, frzd, callM, onMs, subsO, lenO, absO, isiO, D.tg, isTy, tgtT, tgtC, tgtN, par2, par3, forS, seqI, srcD, catO, addO, subO, repO, mulO, fdivO, modO, negO, ltO, leO, gtO, geO, cmpI, gcdO, maxO, minO, intO, tupleO, listO]
theorem e_want_mast (xs : List D) (i : Nat) (h : i < xs.length) (s : S) : f_want_mast [.tup xs, .int (i : Nat)] s = .ok (.int (i : Nat)) s := by
  have h1 := fun s => e_is_within i 0 ((xs.length : Int) - 1) s
  have c1 : (0 : Int) ≤ (i : Int) := by omega
  have c2 : (i : Int) ≤ (xs.length : Int) - 1 := by omega
  simp only [c1, c2, decide_true, Bool.and_self] at h1
  simp [f_want_mast, m_want_mast, h1, fnM, bnd, Mp.ret, lift, stk, seqS, retS, asgS, dropS, ifS, setv, getv, peekv, op1, op2, ap1, ap2, asB, chain2, testM, truM, truO, andV, orV, notV, ifV, andB, orB, notB, argN, argC, mkTup, mkLst, frzd, callM, onMs, subsO, lenO, absO, isiO, D.tg, isTy, tgtT, tgtC, tgtN, par2, par3, forS, seqI, srcD, catO, addO, subO, repO, mulO, fdivO, modO, negO, ltO, leO, gtO, geO, cmpI, gcdO, maxO, minO, intO, tupleO, listO]
theorem atM {ms : List Ma} {i : Nat} {m : Ma} (h : ms[i]? = some m) : L2.atI (ms.map md) (i : Int) = some (md m) := atN (by rw [List.getElem?_map, h]; rfl)
theorem e_removal {ms : List Ma} (v : VM ms) {p : Rat × Rat} (hp : BP 20 p) {i : Nat} {m : Ma} (h : ms[i]? = some m) (s : S) : f_removal [.tup (ms.map md), .int (i : Nat), pd p] s = .ok (rd (remv m p)) s := by
  have h1 := fun s => e_want_masts v s
  have h2 := fun s => e_want_mast (ms.map md) i (by rw [List.length_map]; exact (List.getElem?_eq_some_iff.mp h).1) s
  have h3 := fun s => e_want_place (p := p) ⟨hp.1.mono (by decide), hp.2.mono (by decide)⟩ s
  have hm := v.bd m (List.mem_of_getElem? h)
  have h4 := fun s => e_removal_by m p s hm hp (by decide)
  have h5 := fun s => e_shown (q := remv m p) (remv_bd hm hp (by decide)) s
  have h6 := atM h
  generalize ms.map md = xs at *
  generalize pd p = x at *
  simp [f_removal, m_removal, h1, h2, h3, h4, h5, h6, fnM, bnd, Mp.ret, lift, stk, seqS, retS, asgS, dropS, ifS, setv, getv, peekv, op1, op2, ap1, ap2, asB, chain2, testM, truM, truO, andV, orV, notV, ifV, andB, orB, notB, argN, argC, mkTup, mkLst, frzd, callM, onMs, subsO, lenO, absO, isiO, D.tg, isTy, tgtT, tgtC, tgtN, par2, par3, forS, seqI, srcD, catO, addO, subO, repO, mulO, fdivO, modO, negO, ltO, leO, gtO, geO, cmpI, gcdO, maxO, minO, intO, tupleO, listO]
theorem e_nearest {ms : List Ma} (v : VM ms) {p : Rat × Rat} (hp : BP 20 p) (s : S) : f_nearest [.tup (ms.map md), pd p] s = .ok (.lst (idxs (ms.map fun m => remv m p))) s := by
  have h1 := fun s => e_want_masts v s
  have h3 := fun s => e_want_place (p := p) ⟨hp.1.mono (by decide), hp.2.mono (by decide)⟩ s
  have h4 := fun s => e_nearest_by ms v.ne p s (fun m hm => v.bd m hm) hp (by decide) (by have := v.len; omega)
  generalize ms.map md = xs at *
  generalize pd p = x at *
  simp [f_nearest, m_nearest, h1, h3, h4, fnM, bnd, Mp.ret, lift, stk, seqS, retS, asgS, dropS, ifS, setv, getv, peekv, op1, op2, ap1, ap2, asB, chain2, testM, truM, truO, andV, orV, notV, ifV, andB, orB, notB, argN, argC, mkTup, mkLst, frzd, callM, onMs, subsO, lenO, absO, isiO, D.tg, isTy, tgtT, tgtC, tgtN, par2, par3, forS, seqI, srcD, catO, addO, subO, repO, mulO, fdivO, modO, negO, ltO, leO, gtO, geO, cmpI, gcdO, maxO, minO, intO, tupleO, listO]
theorem e_mast_plane {ms : List Ma} (v : VM ms) {i : Nat} {m : Ma} (h : ms[i]? = some m) (s : S) : f_mast_plane [.tup (ms.map md), .int (i : Nat)] s = .ok (.tup [rd (2 * m.x), rd (2 * m.y), rd (-(m.x * m.x + m.y * m.y + m.h))]) s := by
  have h1 := fun s => e_want_masts v s
  have h2 := fun s => e_want_mast (ms.map md) i (by rw [List.length_map]; exact (List.getElem?_eq_some_iff.mp h).1) s
  have hm := v.bd m (List.mem_of_getElem? h)
  have h4 := fun s => e_plane_by m s hm (by decide)
  have b2 : Bd 20 2 := Bd.mono (n := 2) ⟨by decide, by decide⟩ (by decide)
  have hb : ∀ q ∈ [2 * m.x, 2 * m.y, -(m.x * m.x + m.y * m.y + m.h)], Bd 1000 q := by
    intro q hq
    rcases (by simpa using hq : q = 2 * m.x ∨ q = 2 * m.y ∨ q = -(m.x * m.x + m.y * m.y + m.h)) with e | e | e
    · rw [e]; exact b2.mul hm.1 (by decide)
    · rw [e]; exact b2.mul hm.2.1 (by decide)
    · rw [e]; exact (((hm.1.mul hm.1 (Nat.le_refl _)).add (hm.2.1.mul hm.2.1 (Nat.le_refl _)) (Nat.le_refl _)).add hm.2.2 (by decide)).neg
  have h6 := atM h
  generalize ms.map md = xs at *
  have hc : c1_mast_plane ⟨[.val (.tup xs), .val (.int (i : Nat)), .un], s.ms⟩ = .ok ([2 * m.x, 2 * m.y, -(m.x * m.x + m.y * m.y + m.h)].map rd) ⟨[.val (.tup xs), .val (.int (i : Nat)), .un], s.ms⟩ := by
    have := lcM_map rd [2 * m.x, 2 * m.y, -(m.x * m.x + m.y * m.y + m.h)] (vs := [2]) (src := (seqI (callM f_plane_by (argC (op2 subsO (peekv 0) (peekv 1)) argN)))) (t := setv 2) (c := yesM) (f := ce1_mast_plane) (fun q => some (rd q))
      (s := ⟨[.val (.tup xs), .val (.int (i : Nat)), .un], s.ms⟩) (by simp [h4, h6, fnM, bnd, Mp.ret, lift, stk, seqS, retS, asgS, dropS, ifS, setv, getv, peekv, op1, op2, ap1, ap2, asB, chain2, testM, truM, truO, andV, orV, notV, ifV, andB, orB, notB, argN, argC, mkTup, mkLst, frzd, callM, onMs, subsO, lenO, absO, isiO, D.tg, isTy, tgtT, tgtC, tgtN, par2, par3, forS, seqI, srcD, catO, addO, subO, repO, mulO, fdivO, modO, negO, ltO, leO, gtO, geO, cmpI, gcdO, maxO, minO, intO, tupleO, listO]) (by simp) (by simp) (by
        intro q hq
        have h5 := fun s => e_shown (q := q) (hb q hq) s
        refine ⟨[.val (.tup xs), .val (.int (i : Nat)), .val (rd q)], ?_, by simp [wipeE]⟩
        simp [lcT, wipeE, yesM, ce1_mast_plane, h5, fnM, bnd, Mp.ret, lift, stk, seqS, retS, asgS, dropS, ifS, setv, getv, peekv, op1, op2, ap1, ap2, asB, chain2, testM, truM, truO, andV, orV, notV, ifV, andB, orB, notB, argN, argC, mkTup, mkLst, frzd, callM, onMs, subsO, lenO, absO, isiO, D.tg, isTy, tgtT, tgtC, tgtN, par2, par3, forS, seqI, srcD, catO, addO, subO, repO, mulO, fdivO, modO, negO, ltO, leO, gtO, geO, cmpI, gcdO, maxO, minO, intO, tupleO, listO])
    unfold c1_mast_plane
    rw [this, filterMap_some_map]
    simp [restE, wipeE, keepVal]
  simp [f_mast_plane, m_mast_plane, h1, h2, hc, fnM, bnd, Mp.ret, lift, stk, seqS, retS, asgS, dropS, ifS, setv, getv, peekv, op1, op2, ap1, ap2, asB, chain2, testM, truM, truO, andV, orV, notV, ifV, andB, orB, notB, argN, argC, mkTup, mkLst, frzd, callM, onMs, subsO, lenO, absO, isiO, D.tg, isTy, tgtT, tgtC, tgtN, par2, par3, forS, seqI, srcD, catO, addO, subO, repO, mulO, fdivO, modO, negO, ltO, leO, gtO, geO, cmpI, gcdO, maxO, minO, intO, tupleO, listO]
end K61

set_option linter.all false
set_option maxRecDepth 100000
namespace K61
open Mp
theorem e_law_nearest {n : Nat} (ms : List Ma) (p : Rat × Rat) (s : S) (hm : ∀ m ∈ ms, BM n m) (hp : BP n p) (hn : n ≤ 50) (hl : ms.length ≤ 1000) :
    f_law_nearest [.tup (ms.map md), pd p] s = .ok (.lst (idxs (ms.map fun m => remv m p))) s := by
  have hb : ∀ q ∈ ms.map (fun m => remv m p), Bd 500 q := fun q hq => by
    obtain ⟨m, hmm, rfl⟩ := List.mem_map.mp hq
    exact remv_bd (hm m hmm) hp (by omega)
  have hc3 : c3_law_nearest ⟨[.val (.tup (ms.map md)), .val (pd p), .un, .un, .un, .un, .un], s.ms⟩ = .ok ((ms.map fun m => remv m p).map rd) ⟨[.val (.tup (ms.map md)), .val (pd p), .un, .un, .un, .un, .un], s.ms⟩ := by
    have := lcM_map md ms (vs := [3]) (src := seqI (getv 0)) (t := setv 3) (c := yesM) (f := ce3_law_nearest) (fun m => some (rd (remv m p)))
      (s := ⟨[.val (.tup (ms.map md)), .val (pd p), .un, .un, .un, .un, .un], s.ms⟩) (by simp [fnM, bnd, Mp.ret, lift, stk, seqS, retS, asgS, dropS, ifS, setv, getv, peekv, op1, op2, ap1, ap2, asB, chain2, testM, truM, truO, andV, orV, notV, ifV, andB, orB, notB, argN, argC, mkTup, mkLst, frzd, callM, onMs, subsO, lenO, absO, isiO, D.tg, isTy, tgtT, tgtC, tgtN, par2, par3, forS, seqI, srcD, catO, addO, subO, repO, mulO, fdivO, modO, negO, ltO, leO, gtO, geO, cmpI, gcdO, maxO, minO, intO, tupleO, listO]) (by omega) (by simp) (by
        intro m hmm
        have hr := fun s => e_law_removal m p s (hm m hmm) hp hn
        refine ⟨[.val (.tup (ms.map md)), .val (pd p), .un, .val (md m), .un, .un, .un], ?_, by simp [wipeE]⟩
        simp [lcT, wipeE, yesM, ce3_law_nearest, hr, fnM, bnd, Mp.ret, lift, stk, seqS, retS, asgS, dropS, ifS, setv, getv, peekv, op1, op2, ap1, ap2, asB, chain2, testM, truM, truO, andV, orV, notV, ifV, andB, orB, notB, argN, argC, mkTup, mkLst, frzd, callM, onMs, subsO, lenO, absO, isiO, D.tg, isTy, tgtT, tgtC, tgtN, par2, par3, forS, seqI, srcD, catO, addO, subO, repO, mulO, fdivO, modO, negO, ltO, leO, gtO, geO, cmpI, gcdO, maxO, minO, intO, tupleO, listO])
    unfold c3_law_nearest
    rw [this, filterMap_some_map, List.map_map]
    simp [restE, wipeE, keepVal]
  generalize hqs : (ms.map fun m => remv m p) = qs at *
  have hlq : qs.length ≤ 1000 := by rw [← hqs, List.length_map]; exact hl
  have hc1 : ∀ (A P B : D) (q : Rat), q ∈ qs → c1_law_nearest ⟨[.val A, .val P, .val (.lst (qs.map rd)), .un, .val B, .val (rd q), .un], s.ms⟩ = .ok (qs.map fun z => D.bl (decide (z < q))) ⟨[.val A, .val P, .val (.lst (qs.map rd)), .un, .val B, .val (rd q), .un], s.ms⟩ := by
    intro A P B q hq
    have := lcM_map rd qs (vs := [6]) (src := seqI (getv 2)) (t := setv 6) (c := yesM) (f := ce1_law_nearest) (fun z => some (D.bl (decide (z < q))))
      (s := ⟨[.val A, .val P, .val (.lst (qs.map rd)), .un, .val B, .val (rd q), .un], s.ms⟩) (by simp [fnM, bnd, Mp.ret, lift, stk, seqS, retS, asgS, dropS, ifS, setv, getv, peekv, op1, op2, ap1, ap2, asB, chain2, testM, truM, truO, andV, orV, notV, ifV, andB, orB, notB, argN, argC, mkTup, mkLst, frzd, callM, onMs, subsO, lenO, absO, isiO, D.tg, isTy, tgtT, tgtC, tgtN, par2, par3, forS, seqI, srcD, catO, addO, subO, repO, mulO, fdivO, modO, negO, ltO, leO, gtO, geO, cmpI, gcdO, maxO, minO, intO, tupleO, listO]) (by omega) (by simp) (by
        intro z hz
        have hr := fun s => e_law_less (n := 500) z q s (hb z hz) (hb q hq) (by decide)
        refine ⟨[.val A, .val P, .val (.lst (qs.map rd)), .un, .val B, .val (rd q), .val (rd z)], ?_, by simp [wipeE]⟩
        simp [lcT, wipeE, yesM, ce1_law_nearest, hr, fnM, bnd, Mp.ret, lift, stk, seqS, retS, asgS, dropS, ifS, setv, getv, peekv, op1, op2, ap1, ap2, asB, chain2, testM, truM, truO, andV, orV, notV, ifV, andB, orB, notB, argN, argC, mkTup, mkLst, frzd, callM, onMs, subsO, lenO, absO, isiO, D.tg, isTy, tgtT, tgtC, tgtN, par2, par3, forS, seqI, srcD, catO, addO, subO, repO, mulO, fdivO, modO, negO, ltO, leO, gtO, geO, cmpI, gcdO, maxO, minO, intO, tupleO, listO])
    unfold c1_law_nearest
    rw [this, filterMap_some_map]
    simp [restE, wipeE, keepVal]
  have hc2 : ∀ A P : D, c2_law_nearest ⟨[.val A, .val P, .val (.lst (qs.map rd)), .un, .un, .un, .un], s.ms⟩ = .ok (idxs qs) ⟨[.val A, .val P, .val (.lst (qs.map rd)), .un, .un, .un, .un], s.ms⟩ := by
    intro A P
    have := lcM_map (fun i : Nat => D.tup [.int (i : Nat), (qs.map rd).getD i .non]) (List.range qs.length) (vs := [4, 5]) (src := overA enumO (argC (getv 2) argN)) (t := tgtT 2 (tgtC (setv 4) (tgtC (setv 5) tgtN))) (c := ct1_law_nearest) (f := ce2_law_nearest)
      (fun i => if isLeast qs (qs.getD i 0) then some (D.int (i : Nat)) else none)
      (s := ⟨[.val A, .val P, .val (.lst (qs.map rd)), .un, .un, .un, .un], s.ms⟩) (by simp [overA, enumO, enumL, fnM, bnd, Mp.ret, lift, stk, seqS, retS, asgS, dropS, ifS, setv, getv, peekv, op1, op2, ap1, ap2, asB, chain2, testM, truM, truO, andV, orV, notV, ifV, andB, orB, notB, argN, argC, mkTup, mkLst, frzd, callM, onMs, subsO, lenO, absO, isiO, D.tg, isTy, tgtT, tgtC, tgtN, par2, par3, forS, seqI, srcD, catO, addO, subO, repO, mulO, fdivO, modO, negO, ltO, leO, gtO, geO, cmpI, gcdO, maxO, minO, intO, tupleO, listO]) (by rw [List.length_range]; omega) (by simp) (by
        intro i hi
        have hlt : i < qs.length := List.mem_range.mp hi
        rw [getD_map hlt]
        have hq := getD_mem hlt
        generalize qs.getD i 0 = q at hq
        have h1 := hc1 A P (.int (i : Nat)) q hq
        have ha := fun s => any_map (fun z => decide (z < q)) qs s
        have e : qs.any (fun z => decide (z < q)) = !isLeast qs q := by
          unfold isLeast
          rw [Bool.eq_iff_iff]
          simp
        simp only [e] at ha
        generalize (qs.map fun z => D.bl (decide (z < q))) = bs at *
        refine ⟨[.val A, .val P, .val (.lst (qs.map rd)), .un, .val (.int (i : Nat)), .val (rd q), .un], ?_, by simp [wipeE]⟩
        generalize D.lst (qs.map rd) = L at *
        cases hil : isLeast qs q with
        | true =>
          rw [hil] at ha
          simp [lcT, wipeE, ct1_law_nearest, ce2_law_nearest, h1, ha, fnM, bnd, Mp.ret, lift, stk, seqS, retS, asgS, dropS, ifS, setv, getv, peekv, op1, op2, ap1, ap2, asB, chain2, testM, truM, truO, andV, orV, notV, ifV, andB, orB, notB, argN, argC, mkTup, mkLst, frzd, callM, onMs, subsO, lenO, absO, isiO, D.tg, isTy, tgtT, tgtC, tgtN, par2, par3, forS, seqI, srcD, catO, addO, subO, repO, mulO, fdivO, modO, negO, ltO, leO, gtO, geO, cmpI, gcdO, maxO, minO, intO, tupleO, listO]
        | false =>
          rw [hil] at ha
          simp [lcT, wipeE, ct1_law_nearest, ce2_law_nearest, h1, ha, fnM, bnd, Mp.ret, lift, stk, seqS, retS, asgS, dropS, ifS, setv, getv, peekv, op1, op2, ap1, ap2, asB, chain2, testM, truM, truO, andV, orV, notV, ifV, andB, orB, notB, argN, argC, mkTup, mkLst, frzd, callM, onMs, subsO, lenO, absO, isiO, D.tg, isTy, tgtT, tgtC, tgtN, par2, par3, forS, seqI, srcD, catO, addO, subO, repO, mulO, fdivO, modO, negO, ltO, leO, gtO, geO, cmpI, gcdO, maxO, minO, intO, tupleO, listO])
    unfold c2_law_nearest
    rw [this]
    simp [restE, wipeE, keepVal, idxs]
  generalize ms.map md = A at *
  generalize pd p = P at *
  have h2 := hc2 (.tup A) P
  generalize qs.map rd = L at *
  simp [f_law_nearest, m_law_nearest, hc3, h2, fnM, bnd, Mp.ret, lift, stk, seqS, retS, asgS, dropS, ifS, setv, getv, peekv, op1, op2, ap1, ap2, asB, chain2, testM, truM, truO, andV, orV, notV, ifV, andB, orB, notB, argN, argC, mkTup, mkLst, frzd, callM, onMs, subsO, lenO, absO, isiO, D.tg, isTy, tgtT, tgtC, tgtN, par2, par3, forS, seqI, srcD, catO, addO, subO, repO, mulO, fdivO, modO, negO, ltO, leO, gtO, geO, cmpI, gcdO, maxO, minO, intO, tupleO, listO]
/-! ### drawing -/
def PotI (n : Nat) (ms : List (List D)) : Prop := ∃ a b : Int, ms[n]? = some [.int a, .int b] ∧ 0 ≤ a ∧ 0 ≤ b ∧ b < 2 ^ 40
theorem log2_le' {n k : Nat} (h : n < 2 ^ k) (h0 : 0 < k) : n.log2 < k := log2_lt_of h h0
theorem e_draw (n : Nat) (many : Int) (s : S) (h : PotI n s.ms) (h0 : 0 < many) (h1 : many < 2 ^ 60) :
    ∃ (k : Int) (ms' : List (List D)), f_law_draw [.ref n, .int many] s = .ok (.int k) ⟨s.env, ms'⟩ ∧ 0 ≤ k ∧ k < many ∧ PotI n ms' ∧ ms'.length = s.ms.length := by
  obtain ⟨a, b, hs, ha, hb, hb2⟩ := h
  have hlt : n < s.ms.length := (List.getElem?_eq_some_iff.mp hs).1
  have hlog : many.natAbs.log2 < 9000 := Nat.lt_trans (log2_lt_of (n := 60) (by omega) (by decide)) (by decide)
  by_cases c : 0 < a
  · refine ⟨a % many, s.ms.set n [.int (a / many), .int b], ?_, Int.emod_nonneg _ (by omega), Int.emod_lt_of_pos _ h0, ⟨a / many, b, by rw [List.getElem?_set_self hlt], Int.ediv_nonneg ha (by omega), hb, hb2⟩, by simp⟩
    simp [f_law_draw, m_law_draw, hs, at0, c, h0, hlog, divmodO, tgtS, setAt, L2.ixN, fnM, bnd, Mp.ret, lift, stk, seqS, retS, asgS, dropS, ifS, setv, getv, peekv, op1, op2, ap1, ap2, asB, chain2, testM, truM, truO, andV, orV, notV, ifV, andB, orB, notB, argN, argC, mkTup, mkLst, frzd, callM, onMs, subsO, lenO, absO, isiO, D.tg, isTy, tgtT, tgtC, tgtN, par2, par3, forS, seqI, srcD, catO, addO, subO, repO, mulO, fdivO, modO, negO, ltO, leO, gtO, geO, cmpI, gcdO, maxO, minO, intO, tupleO, listO]
  · have hs' : s.ms[n]'hlt = [.int a, .int b] := (List.getElem?_eq_some_iff.mp hs).2
    have hb' : b.natAbs < 2 ^ 40 := by omega
    have m1 : mulOk b 40692 = true := mulOk_of (n := 40) (m := 20) hb' (by decide) (by decide)
    have hn0 : ∀ i : Int, (2147483587 : Int) ≠ 0 := fun _ => by decide
    have f1 : (b * 40692 + 8501).fmod 2147483587 = (b * 40692 + 8501) % 2147483587 := Int.fmod_eq_emod_of_nonneg _ (by decide)
    have b0 : 0 ≤ (b * 40692 + 8501) % 2147483587 := Int.emod_nonneg _ (by decide)
    have b1 : (b * 40692 + 8501) % 2147483587 < 2147483587 := Int.emod_lt_of_pos _ (by decide)
    generalize hbb : (b * 40692 + 8501) % 2147483587 = b' at f1 b0 b1
    have m2 : mulOk b' b' = true := mulOk_of (n := 40) (m := 40) (by omega) (by omega) (by decide)
    have f2 : (b' * b').fmod 2147483549 = (b' * b') % 2147483549 := Int.fmod_eq_emod_of_nonneg _ (by decide)
    generalize (b' * b') % 2147483549 = c1 at f2
    have d1 : divOk 17 = true := by decide
    generalize hc2 : c1.fdiv 17 = c2
    have f3 : c2.fmod many = c2 % many := Int.fmod_eq_emod_of_nonneg _ (by omega)
    have hm0 : many ≠ 0 := by omega
    refine ⟨c2 % many, s.ms.set n [.int a, .int b'], ?_, Int.emod_nonneg _ (by omega), Int.emod_lt_of_pos _ h0, ⟨a, b', by rw [List.getElem?_set_self hlt], ha, b0, by omega⟩, by simp⟩
    simp [f_law_draw, m_law_draw, hs, hs', hlt, at0, at1, c, m1, f1, m2, f2, d1, hc2, f3, hm0, tgtS, setAt, L2.ixN, fnM, bnd, Mp.ret, lift, stk, seqS, retS, asgS, dropS, ifS, setv, getv, peekv, op1, op2, ap1, ap2, asB, chain2, testM, truM, truO, andV, orV, notV, ifV, andB, orB, notB, argN, argC, mkTup, mkLst, frzd, callM, onMs, subsO, lenO, absO, isiO, D.tg, isTy, tgtT, tgtC, tgtN, par2, par3, forS, seqI, srcD, catO, addO, subO, repO, mulO, fdivO, modO, negO, ltO, leO, gtO, geO, cmpI, gcdO, maxO, minO, intO, tupleO, listO]
end K61

set_option linter.all false
set_option maxRecDepth 100000
namespace K61
open Mp
/-- what a step that draws leaves -/
structure Kp (n : Nat) (ms ms' : List (List D)) : Prop where
  pot : PotI n ms'
  len : ms'.length = ms.length
theorem Kp.trans {n : Nat} {a b c : List (List D)} (h : Kp n a b) (k : Kp n b c) : Kp n a c := ⟨k.pot, k.len.trans h.len⟩
theorem k_draw (n : Nat) (many : Int) (s : S) (h : PotI n s.ms) (h0 : 0 < many) (h1 : many < 2 ^ 60) : ∃ (k : Int) (ms' : List (List D)), f_law_draw [.ref n, .int many] s = .ok (.int k) ⟨s.env, ms'⟩ ∧ 0 ≤ k ∧ k < many ∧ Kp n s.ms ms' := by
  obtain ⟨k, ms', h1, h2, h3, h4, h5⟩ := e_draw n many s h h0 h1
  exact ⟨k, ms', h1, h2, h3, h4, h5⟩
theorem k_pick (n : Nat) (xs : List D) (s : S) (h : PotI n s.ms) (h0 : xs ≠ []) (h1 : xs.length < 1000) (x : D) (hx : x = .lst xs ∨ x = .tup xs) : ∃ (d : D) (ms' : List (List D)), f_law_pick [.ref n, x] s = .ok d ⟨s.env, ms'⟩ ∧ d ∈ xs ∧ Kp n s.ms ms' := by
  have hp : 0 < xs.length := List.length_pos_iff.mpr h0
  obtain ⟨k, ms', e, k0, k1, kp⟩ := k_draw n (xs.length : Int) ⟨[], s.ms⟩ h (by omega) (by omega)
  have hk : k.toNat < xs.length := by omega
  have ek : (k.toNat : Int) = k := by omega
  have ha : L2.atI xs k = some xs[k.toNat] := by
    have := atN (List.getElem?_eq_getElem hk)
    rwa [ek] at this
  refine ⟨xs[k.toNat], ms', ?_, List.getElem_mem hk, kp⟩
  rcases hx with rfl | rfl
  · simp [f_law_pick, m_law_pick, e, ha, fnM, bnd, Mp.ret, lift, stk, seqS, retS, asgS, dropS, ifS, setv, getv, peekv, op1, op2, ap1, ap2, asB, chain2, testM, truM, truO, andV, orV, notV, ifV, andB, orB, notB, argN, argC, mkTup, mkLst, frzd, callM, onMs, subsO, lenO, absO, isiO, D.tg, isTy, tgtT, tgtC, tgtN, par2, par3, forS, seqI, srcD, catO, addO, subO, repO, mulO, fdivO, modO, negO, ltO, leO, gtO, geO, cmpI, gcdO, maxO, minO, intO, tupleO, listO]
  · simp [f_law_pick, m_law_pick, e, ha, fnM, bnd, Mp.ret, lift, stk, seqS, retS, asgS, dropS, ifS, setv, getv, peekv, op1, op2, ap1, ap2, asB, chain2, testM, truM, truO, andV, orV, notV, ifV, andB, orB, notB, argN, argC, mkTup, mkLst, frzd, callM, onMs, subsO, lenO, absO, isiO, D.tg, isTy, tgtT, tgtC, tgtN, par2, par3, forS, seqI, srcD, catO, addO, subO, repO, mulO, fdivO, modO, negO, ltO, leO, gtO, geO, cmpI, gcdO, maxO, minO, intO, tupleO, listO]
theorem k_draw_ratio (n : Nat) (s : S) (h : PotI n s.ms) : ∃ (q : Rat) (ms' : List (List D)), f_law_draw_ratio [.ref n, .int 20] s = .ok (rd q) ⟨s.env, ms'⟩ ∧ Bd 5 q ∧ Kp n s.ms ms' := by
  obtain ⟨k, ms1, e1, k0, k1, kp1⟩ := k_draw n 41 ⟨[], s.ms⟩ h (by decide) (by decide)
  obtain ⟨d, ms2, e2, hd, kp2⟩ := k_pick n [.int 1, .int 1, .int 1, .int 2, .int 3] ⟨[], ms1⟩ kp1.pot (by simp) (by decide) _ (.inl rfl)
  have m1 : mulOk 2 20 = true := by decide
  obtain ⟨u, rfl, u0, u1⟩ : ∃ u : Int, d = .int u ∧ 0 < u ∧ u < 2 ^ 5 := by
    rcases (by simpa using hd : d = .int 1 ∨ d = .int 2 ∨ d = .int 3) with e | e | e
    · exact ⟨1, e, by decide, by decide⟩
    · exact ⟨2, e, by decide, by decide⟩
    · exact ⟨3, e, by decide, by decide⟩
  have hl := fun s => e_law_low (k - 20) u s u0 (k := 5) (by omega) (by decide)
  refine ⟨Rat.divInt (k - 20) u, ms2, ?_, Bd.low u0 (by omega) (by omega), kp1.trans kp2⟩
  simp [f_law_draw_ratio, m_law_draw_ratio, m1, e1, e2, hl, fnM, bnd, Mp.ret, lift, stk, seqS, retS, asgS, dropS, ifS, setv, getv, peekv, op1, op2, ap1, ap2, asB, chain2, testM, truM, truO, andV, orV, notV, ifV, andB, orB, notB, argN, argC, mkTup, mkLst, frzd, callM, onMs, subsO, lenO, absO, isiO, D.tg, isTy, tgtT, tgtC, tgtN, par2, par3, forS, seqI, srcD, catO, addO, subO, repO, mulO, fdivO, modO, negO, ltO, leO, gtO, geO, cmpI, gcdO, maxO, minO, intO, tupleO, listO]
theorem nin_md' (m : Ma) (ms : List Ma) (s : S) : ninO (md m) (.lst (ms.map md)) s = some (.bl (decide (m ∉ ms))) := by
  have e : (ms.map pm).any (fun z => PySem.PyData.eqv z (pm m)) = decide (m ∈ ms) := by
    rw [Bool.eq_iff_iff, List.any_eq_true, decide_eq_true_eq]
    constructor
    · rintro ⟨z, hz, h⟩
      obtain ⟨n, hn, rfl⟩ := List.mem_map.mp hz
      rw [(eqv_pm n m).mp h] at hn
      exact hn
    · intro h
      exact ⟨pm m, List.mem_map.mpr ⟨m, h, rfl⟩, (eqv_pm m m).mpr rfl⟩
  have hpy : (D.lst (ms.map md)).py = some (.list (ms.map pm)) := by
    unfold D.py
    rw [pys_md]
    rfl
  have hsh : PySem.SeqAt.shaped (.list (ms.map pm)) = true := by
    have := shaped_pms ms
    simpa [PySem.SeqAt.shaped, PySem.PyData.canLay0, PySem.PyData.depth] using this
  have e0 : inD (md m) (.lst (ms.map md)) = some (decide (m ∈ ms)) := by
    unfold inD
    simp only [md]
    rw [show (D.tup [rd m.x, rd m.y, rd m.h]) = md m from rfl, py_md, hpy]
    simp only [shaped_pm, hsh, Bool.and_self, if_true, e]
  unfold ninO
  rw [e0]
  simp
/-- one turn of _law_masts -/
theorem k_mast (n : Nat) (M : D) (e4 e5 : Sl) (ms : List Ma) (st : List (List D)) (h : PotI n st) (hl : ms.length < 1000) : ∃ (m : Ma) (st' : List (List D)), (BM 5 m ∧ m.h.den = 1) ∧ Kp n st st' ∧
    lb1_law_masts ⟨[.val (.ref n), .val M, .val (.int 20), .own (ms.map md), e4, e5], st⟩ = .ok .nx ⟨[.val (.ref n), .val M, .val (.int 20), .own ((if m ∈ ms then ms else ms ++ [m]).map md), e4, .val (md m)], st'⟩ := by
  obtain ⟨q1, s1, e1, b1, k1⟩ := k_draw_ratio n ⟨[], st⟩ h
  obtain ⟨q2, s2, e2, b2, k2⟩ := k_draw_ratio n ⟨[], s1⟩ k1.pot
  obtain ⟨d, s3, e3, hd, k3⟩ := k_pick n [.int 1, .int 1, .int 30] ⟨[], s2⟩ k2.pot (by simp) (by decide) _ (.inl rfl)
  obtain ⟨u, rfl, u0, u1⟩ : ∃ u : Int, d = .int u ∧ 0 < u ∧ u ≤ 30 := by
    rcases (by simpa using hd : d = .int 1 ∨ d = .int 30) with e | e
    · exact ⟨1, e, by decide, by decide⟩
    · exact ⟨30, e, by decide, by decide⟩
  obtain ⟨k, s4, e4', k0, k1', k4⟩ := k_draw n u ⟨[], s3⟩ k3.pot u0 (by omega)
  have hlow := fun s => e_law_low k 1 s (by decide) (k := 5) (by decide) (by decide)
  have b3 : Bd 5 (Rat.divInt k 1) := Bd.low (by decide) (by omega) (by decide)
  have d3 : (Rat.divInt k 1).den = 1 := by
    rw [Rat.den_divInt]
    simp
  generalize Rat.divInt k 1 = q3 at hlow b3 d3
  refine ⟨⟨q1, q2, q3⟩, s4, ⟨⟨b1, b2, b3⟩, d3⟩, ((k1.trans k2).trans k3).trans k4, ?_⟩
  have hn := fun s => nin_md' ⟨q1, q2, q3⟩ ms s
  have emd : md ⟨q1, q2, q3⟩ = .tup [rd q1, rd q2, rd q3] := rfl
  have hlen : (ms.map md).length = ms.length := List.length_map ..
  by_cases c : (⟨q1, q2, q3⟩ : Ma) ∈ ms
  · simp only [c, not_true_eq_false, decide_false] at hn
    rw [if_pos c]
    rw [emd] at hn ⊢
    generalize ms.map md = L at *
    simp [lb1_law_masts, e1, e2, e3, e4', hlow, hn, extS, ownOf, hlen, show ms.length ≤ 100000 by omega, fnM, bnd, Mp.ret, lift, stk, seqS, retS, asgS, dropS, ifS, setv, getv, peekv, op1, op2, ap1, ap2, asB, chain2, testM, truM, truO, andV, orV, notV, ifV, andB, orB, notB, argN, argC, mkTup, mkLst, frzd, callM, onMs, subsO, lenO, absO, isiO, D.tg, isTy, tgtT, tgtC, tgtN, par2, par3, forS, seqI, srcD, catO, addO, subO, repO, mulO, fdivO, modO, negO, ltO, leO, gtO, geO, cmpI, gcdO, maxO, minO, intO, tupleO, listO]
  · simp only [c, not_false_eq_true, decide_true] at hn
    rw [if_neg c, List.map_append]
    rw [emd] at hn
    generalize ms.map md = L at *
    simp [lb1_law_masts, e1, e2, e3, e4', hlow, hn, extS, ownOf, hlen, emd, show ms.length + 1 ≤ 100000 by omega, fnM, bnd, Mp.ret, lift, stk, seqS, retS, asgS, dropS, ifS, setv, getv, peekv, op1, op2, ap1, ap2, asB, chain2, testM, truM, truO, andV, orV, notV, ifV, andB, orB, notB, argN, argC, mkTup, mkLst, frzd, callM, onMs, subsO, lenO, absO, isiO, D.tg, isTy, tgtT, tgtC, tgtN, par2, par3, forS, seqI, srcD, catO, addO, subO, repO, mulO, fdivO, modO, negO, ltO, leO, gtO, geO, cmpI, gcdO, maxO, minO, intO, tupleO, listO]
structure VF (k : Nat) (ms : List Ma) : Prop where
  len : ms.length ≤ k
  nd : ms.Nodup
  bd : ∀ m ∈ ms, BM 5 m ∧ m.h.den = 1
theorem k_masts (n : Nat) (s : S) (h : PotI n s.ms) : ∃ (ms : List Ma) (st' : List (List D)), f_law_masts [.ref n, .int 8, .int 20] s = .ok (.tup (ms.map md)) ⟨s.env, st'⟩ ∧ ms ≠ [] ∧ VF 8 ms ∧ Kp n s.ms st' := by
  obtain ⟨k, s1, e1, k0, k1, kp⟩ := k_draw n 8 ⟨[], s.ms⟩ h (by decide) (by decide)
  -- the loop
  have loop : ∀ (xs : List D) (ms : List Ma) (st : List (List D)) (e4 e5 : Sl), PotI n st → VF (1000 - xs.length - 1) ms → xs.length + ms.length ≤ 8 → ∃ (ms' : List Ma) (st' : List (List D)) (e4' e5' : Sl), VF 8 ms' ∧ Kp n st st' ∧ (ms ≠ [] ∨ xs ≠ [] → ms' ≠ []) ∧
      forL (setv 4) lb1_law_masts xs ⟨[.val (.ref n), .val (.int 8), .val (.int 20), .own (ms.map md), e4, e5], st⟩ = .ok .nx ⟨[.val (.ref n), .val (.int 8), .val (.int 20), .own (ms'.map md), e4', e5'], st'⟩ := by
    intro xs
    induction xs with
    | nil => exact fun ms st e4 e5 hp v hl => ⟨ms, st, e4, e5, ⟨by simpa using hl, v.nd, v.bd⟩, ⟨hp, rfl⟩, fun h => by simpa using h, rfl⟩
    | cons x xs ih =>
      intro ms st e4 e5 hp v hl
      simp only [List.length_cons] at hl
      obtain ⟨m, st1, bm, kp1, hb⟩ := k_mast n (.int 8) (.val x) e5 ms st hp (by omega)
      have v' : VF (1000 - xs.length - 1) (if m ∈ ms then ms else ms ++ [m]) := by
        by_cases c : m ∈ ms
        · rw [if_pos c]
          exact ⟨by have := v.len; simp only [List.length_cons] at this; omega, v.nd, v.bd⟩
        · rw [if_neg c]
          refine ⟨by rw [List.length_append]; simp; omega, ?_, fun z hz => ?_⟩
          · rw [List.nodup_append]
            exact ⟨v.nd, by simp, fun a ha b hb e => c (by rw [List.mem_singleton.mp hb] at e; rw [← e]; exact ha)⟩
          · rcases List.mem_append.mp hz with z1 | z1
            · exact v.bd z z1
            · rw [List.mem_singleton.mp z1]; exact bm
      have hl' : xs.length + (if m ∈ ms then ms else ms ++ [m]).length ≤ 8 := by
        split
        · omega
        · rw [List.length_append]; simp; omega
      obtain ⟨ms', st', f4, f5, v2, kp2, hne, hf⟩ := ih _ st1 (.val x) (.val (md m)) kp1.pot v' hl'
      refine ⟨ms', st', f4, f5, v2, kp1.trans kp2, fun _ => hne (.inl ?_), ?_⟩
      · by_cases c : m ∈ ms
        · rw [if_pos c]
          exact fun e => by rw [e] at c; cases c
        · rw [if_neg c]
          simp
      · rw [forL_step (s1 := ⟨[.val (.ref n), .val (.int 8), .val (.int 20), .own (ms.map md), .val x, e5], st⟩) (by simp [fnM, bnd, Mp.ret, lift, stk, seqS, retS, asgS, dropS, ifS, setv, getv, peekv, op1, op2, ap1, ap2, asB, chain2, testM, truM, truO, andV, orV, notV, ifV, andB, orB, notB, argN, argC, mkTup, mkLst, frzd, callM, onMs, subsO, lenO, absO, isiO, D.tg, isTy, tgtT, tgtC, tgtN, par2, par3, forS, seqI, srcD, catO, addO, subO, repO, mulO, fdivO, modO, negO, ltO, leO, gtO, geO, cmpI, gcdO, maxO, minO, intO, tupleO, listO]) hb]
        exact hf
  have hr : rng1O [.int (1 + k)] = some (rangeD 0 (1 + k)) := by
    show (if _ then _ else _) = _
    rw [if_pos ⟨by omega, by omega⟩]
  have hrl : (rangeD 0 (1 + k)).length = (1 + k).toNat := by simp [rangeD]
  obtain ⟨ms', st', f4, f5, v2, kp2, hne, hf⟩ := loop (rangeD 0 (1 + k)) [] s1 .un .un kp.pot ⟨by simp, List.nodup_nil, by simp⟩ (by rw [hrl]; simp; omega)
  refine ⟨ms', st', ?_, hne (.inr fun e => by rw [e] at hrl; simp at hrl; omega), v2, kp.trans kp2⟩
  rw [List.map_nil] at hf
  generalize ms'.map md = L at *
  simp [f_law_masts, m_law_masts, l1_law_masts, ownS, setown, overA, e1, hr, hf, fnM, bnd, Mp.ret, lift, stk, seqS, retS, asgS, dropS, ifS, setv, getv, peekv, op1, op2, ap1, ap2, asB, chain2, testM, truM, truO, andV, orV, notV, ifV, andB, orB, notB, argN, argC, mkTup, mkLst, frzd, callM, onMs, subsO, lenO, absO, isiO, D.tg, isTy, tgtT, tgtC, tgtN, par2, par3, forS, seqI, srcD, catO, addO, subO, repO, mulO, fdivO, modO, negO, ltO, leO, gtO, geO, cmpI, gcdO, maxO, minO, intO, tupleO, listO]
end K61

set_option linter.all false
set_option maxRecDepth 100000
namespace K61
open Mp
theorem cut_drop {α : Type} (xs : List α) (i : Nat) : cutD xs (some (i : Int)) none = xs.drop i := by
  unfold cutD
  rw [HT.sIx_none, HT.sIx_nat]
  by_cases h : i ≤ xs.length
  · rw [Nat.min_eq_left h, List.take_of_length_le (by simp)]
  · rw [Nat.min_eq_right (by omega), List.drop_length, List.drop_of_length_le (by omega)]
    simp
theorem gd0_int {i : Int} (h : i.natAbs < 2 ^ 100) (k : Nat) : gd k (.int i) = true := by
  cases k <;> simp [gd, D.tg, small, h]
theorem gd_mk {k : Nat} {xs : List D} (hl : xs.length ≤ 100) (h : ∀ x ∈ xs, gd k x = true) : gd (k + 1) (.tup xs) = true := by
  have : xs.all (gd k) = true := List.all_eq_true.mpr h
  simp [gd, D.tg, small, hl, this]
theorem gd_up : ∀ (k : Nat) (x : D), gd k x = true → (∀ xs, x ≠ .tup xs) → ∀ j, gd j x = true := by
  intro k x h hx j
  have h1 := gd_tg h
  have h2 := gd_small h
  cases j with
  | zero => simp [gd, h1, h2]
  | succ j => cases x <;> first
    | (simp [gd, h1, h2]; done)
    | exact absurd rfl (hx _)
/-- what _law_bent gives for a value -/
def Bn (k j : Nat) (x : D) : Prop := ∀ (n : Nat) (s : S), PotI n s.ms → ∃ (d : D) (ms' : List (List D)), f_law_bent j [.ref n, x] s = .ok d ⟨s.env, ms'⟩ ∧ gd k d = true ∧ Kp n s.ms ms'
theorem bent_int (j : Nat) (i : Int) (hi : i.natAbs < 2 ^ 20) : Bn 0 (j + 1) (.int i) := by
  intro n s h
  obtain ⟨d, ms', e, hd, kp⟩ := k_pick n [.int (i + 1), .int (i - 1), .bl true, .non, .int 0, .int 1, .int (-1)] ⟨[], s.ms⟩ h (by simp) (by simp) _ (.inl rfl)
  refine ⟨d, ms', ?_, ?_, kp⟩
  · simp [f_law_bent, m_law_bent, e, fnM, bnd, Mp.ret, lift, stk, seqS, retS, asgS, dropS, ifS, setv, getv, peekv, op1, op2, ap1, ap2, asB, chain2, testM, truM, truO, andV, orV, notV, ifV, andB, orB, notB, argN, argC, mkTup, mkLst, frzd, callM, onMs, subsO, lenO, absO, isiO, D.tg, isTy, tgtT, tgtC, tgtN, par2, par3, forS, seqI, srcD, catO, addO, subO, repO, mulO, fdivO, modO, negO, ltO, leO, gtO, geO, cmpI, gcdO, maxO, minO, intO, tupleO, listO]
  · have z : ∀ m : Nat, m < 2 ^ 21 → m < 2 ^ 100 := fun m hm => by omega
    rcases (by simpa using hd : d = .int (i + 1) ∨ d = .int (i - 1) ∨ d = .bl true ∨ d = .non ∨ d = .int 0 ∨ d = .int 1 ∨ d = .int (-1)) with rfl | rfl | rfl | rfl | rfl | rfl | rfl
    · exact gd0_int (by omega) 0
    · exact gd0_int (by omega) 0
    · rfl
    · rfl
    · exact gd0_int (by decide) 0
    · exact gd0_int (by decide) 0
    · exact gd0_int (by decide) 0
def bentRest (rec : List D → M D) : M Fl :=
    (seqS (ifS (andB (testM (op1 (isiO .tuple) (peekv 1))) (andB (asB (op2 gtO (op1 lenO (peekv 1)) (ret (.int 0)))) (asB (op2 gtO (callM f_law_draw (argC (getv 0) (argC (ret (.int 7)) argN))) (ret (.int 0)))))) (seqS (par2 (argC (callM f_law_draw (argC (getv 0) (argC (op1 lenO (peekv 1)) argN))) (argC (callM f_law_draw (argC (getv 0) (argC (ret (.int 9)) argN))) argN)) 5 6)
    (seqS (ifS (asB (op2 eqO (peekv 6) (ret (.int 0)))) (retS (op2 catO (sliceM (peekv 1) partN (partS (peekv 5))) (sliceM (peekv 1) (partS (op2 catO (peekv 5) (ret (.int 1)))) partN))) (ret .nx))
    (seqS (ifS (asB (op2 eqO (peekv 6) (ret (.int 1)))) (retS (op2 catO (sliceM (peekv 1) partN (partS (op2 catO (peekv 5) (ret (.int 1))))) (sliceM (peekv 1) (partS (peekv 5)) partN))) (ret .nx))
    (retS (ifV (asB (op2 eqO (peekv 6) (ret (.int 2)))) (revA (peekv 1)) (op2 catO (op2 catO (sliceM (peekv 1) partN (partS (peekv 5))) (bnd (argC (callM rec (argC (getv 0) (argC (op2 subsO (peekv 1) (peekv 5)) argN))) argN) mkTup)) (sliceM (peekv 1) (partS (op2 catO (peekv 5) (ret (.int 1)))) partN))))))) (ret .nx))
    (seqS (ifS (testM (op1 (isiO .int) (peekv 1))) (retS (callM f_law_pick (argC (getv 0) (argC (frzd (bnd (argC (op2 catO (peekv 1) (ret (.int 1))) (argC (op2 subO (peekv 1) (ret (.int 1))) (argC (ret (.bl true)) (argC (ret .non) (argC (ret (.int 0)) (argC (ret (.int 1)) (argC (op1 negO (ret (.int 1))) argN))))))) mkLst)) argN)))) (ret .nx))
    (retS (callM f_law_pick (argC (getv 0) (argC (frzd (bnd (argC (ret .non) (argC (ret (.int 0)) (argC (ifV (testM (op1 (isiO .tuple) (peekv 1))) (op1 listO (peekv 1)) (frzd (bnd argN mkLst))) (argC (bnd argN mkTup) (argC (ret (.str "x")) (argC (ret .dct) argN)))))) mkLst)) argN))))))
theorem bent_rest (j k : Nat) (xs : List D) (h0 : xs ≠ []) (hl : xs.length ≤ 60) (hg : ∀ x ∈ xs, gd k x = true) (hb : ∀ x ∈ xs, Bn k j x) (n : Nat) (ms : List (List D)) (h : PotI n ms) (e7 : Sl) :
    ∃ (d : D) (e' : List Sl) (ms' : List (List D)), bentRest (f_law_bent j) ⟨[.val (.ref n), .val (.tup xs), .un, .un, .un, .un, .un, e7], ms⟩ = .ok (.ret d) ⟨e', ms'⟩ ∧ gd (k + 1) d = true ∧ Kp n ms ms' := by
  have hp : 0 < xs.length := List.length_pos_iff.mpr h0
  have hp' : (0 : Int) < (xs.length : Int) := by omega
  obtain ⟨k1, s1, e1, a1, a2, kp1⟩ := k_draw n 7 ⟨[], ms⟩ h (by decide) (by decide)
  by_cases c : 0 < k1
  · obtain ⟨at0', s2, e2, b1, b2, kp2⟩ := k_draw n (xs.length : Int) ⟨[], s1⟩ kp1.pot hp' (by omega)
    obtain ⟨i, rfl⟩ : ∃ i : Nat, at0' = (i : Int) := ⟨at0'.toNat, by omega⟩
    obtain ⟨w, s3, e3, w1, w2, kp3⟩ := k_draw n 9 ⟨[], s2⟩ kp2.pot (by decide) (by decide)
    have hi : i < xs.length := by omega
    have kp := (kp1.trans kp2).trans kp3
    have t1 := cut_take xs i
    have t2 := cut_drop xs i
    have t3 := cut_take xs (i + 1)
    have t4 := cut_drop xs (i + 1)
    have ei : ((i + 1 : Nat) : Int) = (i : Int) + 1 := by omega
    rw [ei] at t3 t4
    have l1 : (xs.take i).length = i := by rw [List.length_take]; omega
    have l2 : (xs.drop (i + 1)).length = xs.length - (i + 1) := List.length_drop ..
    have l3 : (xs.take (i + 1)).length = i + 1 := by rw [List.length_take]; omega
    have l4 : (xs.drop i).length = xs.length - i := List.length_drop ..
    have g1 : ∀ x ∈ xs.take i, gd k x = true := fun x hx => hg x (List.mem_of_mem_take hx)
    have g2 : ∀ x ∈ xs.drop (i + 1), gd k x = true := fun x hx => hg x (List.mem_of_mem_drop hx)
    have g3 : ∀ x ∈ xs.take (i + 1), gd k x = true := fun x hx => hg x (List.mem_of_mem_take hx)
    have g4 : ∀ x ∈ xs.drop i, gd k x = true := fun x hx => hg x (List.mem_of_mem_drop hx)
    by_cases w0 : w = 0
    · subst w0
      have hle : i + (xs.length - (i + 1)) ≤ 100000 := by omega
      refine ⟨.tup (xs.take i ++ xs.drop (i + 1)), [.val (.ref n), .val (.tup xs), .un, .un, .un, .val (.int (i : Int)), .val (.int 0), e7], s3, ?_, ?_, kp⟩
      · generalize xs.take i = A at *
        generalize xs.drop (i + 1) = B at *
        simp [bentRest, eq_int, e1, e2, e3, c, hp, hp', sliceM, partN, partS, slO, t1, t4, l1, l2, hle, fnM, bnd, Mp.ret, lift, stk, seqS, retS, asgS, dropS, ifS, setv, getv, peekv, op1, op2, ap1, ap2, asB, chain2, testM, truM, truO, andV, orV, notV, ifV, andB, orB, notB, argN, argC, mkTup, mkLst, frzd, callM, onMs, subsO, lenO, absO, isiO, D.tg, isTy, tgtT, tgtC, tgtN, par2, par3, forS, seqI, srcD, catO, addO, subO, repO, mulO, fdivO, modO, negO, ltO, leO, gtO, geO, cmpI, gcdO, maxO, minO, intO, tupleO, listO]
      · refine gd_mk (by rw [List.length_append, l1, l2]; omega) fun x hx => ?_
        rcases List.mem_append.mp hx with hx | hx
        · exact g1 x hx
        · exact g2 x hx
    · by_cases w1' : w = 1
      · subst w1'
        have hle : i + 1 + (xs.length - i) ≤ 100000 := by omega
        refine ⟨.tup (xs.take (i + 1) ++ xs.drop i), [.val (.ref n), .val (.tup xs), .un, .un, .un, .val (.int (i : Int)), .val (.int 1), e7], s3, ?_, ?_, kp⟩
        · generalize xs.take (i + 1) = A at *
          generalize xs.drop i = B at *
          simp [bentRest, eq_int, e1, e2, e3, c, hp, hp', sliceM, partN, partS, slO, t2, t3, l3, l4, hle, fnM, bnd, Mp.ret, lift, stk, seqS, retS, asgS, dropS, ifS, setv, getv, peekv, op1, op2, ap1, ap2, asB, chain2, testM, truM, truO, andV, orV, notV, ifV, andB, orB, notB, argN, argC, mkTup, mkLst, frzd, callM, onMs, subsO, lenO, absO, isiO, D.tg, isTy, tgtT, tgtC, tgtN, par2, par3, forS, seqI, srcD, catO, addO, subO, repO, mulO, fdivO, modO, negO, ltO, leO, gtO, geO, cmpI, gcdO, maxO, minO, intO, tupleO, listO]
        · refine gd_mk (by rw [List.length_append, l3, l4]; omega) fun x hx => ?_
          rcases List.mem_append.mp hx with hx | hx
          · exact g3 x hx
          · exact g4 x hx
      · have hq0 := fun s => eq_int w 0 s
        have hq1 := fun s => eq_int w 1 s
        have hq2 := fun s => eq_int w 2 s
        simp only [w0, w1', decide_false] at hq0 hq1
        by_cases w2' : w = 2
        · simp only [w2', decide_true] at hq2
          subst w2'
          refine ⟨.tup xs.reverse, [.val (.ref n), .val (.tup xs), .un, .un, .un, .val (.int (i : Int)), .val (.int 2), e7], s3, ?_, ?_, kp⟩
          · simp [bentRest, e1, e2, e3, c, hp, hp', hq0, hq1, hq2, revA, revO, fnM, bnd, Mp.ret, lift, stk, seqS, retS, asgS, dropS, ifS, setv, getv, peekv, op1, op2, ap1, ap2, asB, chain2, testM, truM, truO, andV, orV, notV, ifV, andB, orB, notB, argN, argC, mkTup, mkLst, frzd, callM, onMs, subsO, lenO, absO, isiO, D.tg, isTy, tgtT, tgtC, tgtN, par2, par3, forS, seqI, srcD, catO, addO, subO, repO, mulO, fdivO, modO, negO, ltO, leO, gtO, geO, cmpI, gcdO, maxO, minO, intO, tupleO, listO]
          · exact gd_mk (by rw [List.length_reverse]; omega) fun x hx => hg x (List.mem_reverse.mp hx)
        · simp only [w2', decide_false] at hq2
          obtain ⟨d, s4, e4, gdd, kp4⟩ := hb xs[i] (List.getElem_mem hi) n ⟨[], s3⟩ kp3.pot
          have ha : L2.atI xs (i : Int) = some xs[i] := atN (List.getElem?_eq_getElem hi)
          have hle1 : i + 1 ≤ 100000 := by omega
          have hle : i + 1 + (xs.length - (i + 1)) ≤ 100000 := by omega
          refine ⟨.tup (xs.take i ++ [d] ++ xs.drop (i + 1)), [.val (.ref n), .val (.tup xs), .un, .un, .un, .val (.int (i : Int)), .val (.int w), e7], s4, ?_, ?_, kp.trans kp4⟩
          · generalize xs[i] = y at *
            generalize xs.take i = A at *
            generalize xs.drop (i + 1) = B at *
            simp [bentRest, e1, e2, e3, e4, c, hp, hp', hq0, hq1, hq2, ha, sliceM, partN, partS, slO, t1, t4, l1, l2, hle, hle1, fnM, bnd, Mp.ret, lift, stk, seqS, retS, asgS, dropS, ifS, setv, getv, peekv, op1, op2, ap1, ap2, asB, chain2, testM, truM, truO, andV, orV, notV, ifV, andB, orB, notB, argN, argC, mkTup, mkLst, frzd, callM, onMs, subsO, lenO, absO, isiO, D.tg, isTy, tgtT, tgtC, tgtN, par2, par3, forS, seqI, srcD, catO, addO, subO, repO, mulO, fdivO, modO, negO, ltO, leO, gtO, geO, cmpI, gcdO, maxO, minO, intO, tupleO, listO]
          · refine gd_mk (by rw [List.length_append, List.length_append, l1, l2]; simp; omega) fun x hx => ?_
            rcases List.mem_append.mp hx with hx | hx
            · rcases List.mem_append.mp hx with hx | hx
              · exact g1 x hx
              · rw [List.mem_singleton.mp hx]; exact gdd
            · exact g2 x hx
  · obtain ⟨d, s2, e2, hd, kp2⟩ := k_pick n [.non, .int 0, .lst xs, .tup [], .str "x", .dct] ⟨[], s1⟩ kp1.pot (by simp) (by simp) _ (.inl rfl)
    refine ⟨d, [.val (.ref n), .val (.tup xs), .un, .un, .un, .un, .un, e7], s2, ?_, ?_, kp1.trans kp2⟩
    · simp [bentRest, e1, e2, c, hp, hp', fnM, bnd, Mp.ret, lift, stk, seqS, retS, asgS, dropS, ifS, setv, getv, peekv, op1, op2, ap1, ap2, asB, chain2, testM, truM, truO, andV, orV, notV, ifV, andB, orB, notB, argN, argC, mkTup, mkLst, frzd, callM, onMs, subsO, lenO, absO, isiO, D.tg, isTy, tgtT, tgtC, tgtN, par2, par3, forS, seqI, srcD, catO, addO, subO, repO, mulO, fdivO, modO, negO, ltO, leO, gtO, geO, cmpI, gcdO, maxO, minO, intO, tupleO, listO]
    · rcases (by simpa using hd : d = .non ∨ d = .int 0 ∨ d = .lst xs ∨ d = .tup [] ∨ d = .str "x" ∨ d = .dct) with rfl | rfl | rfl | rfl | rfl | rfl
      · rfl
      · exact gd0_int (by decide) _
      · rfl
      · exact gd_mk (by simp) (by simp)
      · rfl
      · rfl
end K61

set_option linter.all false
set_option maxRecDepth 100000
namespace K61
open Mp
noncomputable def bentIf (rec : List D → M D) : M Fl :=
    (ifS (andB (testM (op1 (isiO .tuple) (peekv 1))) (andB (asB (op2 eqO (op1 lenO (peekv 1)) (ret (.int 2)))) (andB (testM (op1 allO (frzd (c1_law_bent rec)))) (asB (op2 gtO (callM f_law_draw (argC (getv 0) (argC (ret (.int 4)) argN))) (ret (.int 0))))))) (seqS (asgS (getv 1) (tgtT 2 (tgtC (setv 2) (tgtC (setv 3) tgtN))))
    (seqS (asgS (frzd (bnd (argC (bnd (argC (op2 catO (peekv 2) (ret (.int 1))) (argC (getv 3) argN)) mkTup) (argC (bnd (argC (op2 subO (peekv 2) (ret (.int 1))) (argC (getv 3) argN)) mkTup) (argC (bnd (argC (op2 repO (ret (.int 2)) (peekv 2)) (argC (op2 repO (ret (.int 2)) (peekv 3)) argN)) mkTup) (argC (bnd (argC (getv 2) (argC (ret (.int 0)) argN)) mkTup) (argC (bnd (argC (op2 subO (ret (.int 0)) (peekv 2)) (argC (getv 3) argN)) mkTup) (argC (ret .non) argN)))))) mkLst)) (setv 4))
    (retS (callM f_law_pick (argC (getv 0) (argC (op2 catO (peekv 4) (frzd (bnd (argC (callM f_law_low (argC (op2 catO (op2 repO (ret (.int 2)) (peekv 2)) (ret (.int 1))) (argC (op2 repO (ret (.int 2)) (op2 maxO (ret (.int 1)) (peekv 3))) argN))) (argC (frzd (bnd (argC (getv 2) (argC (getv 3) argN)) mkLst)) (argC (bnd (argC (getv 2) (argC (getv 3) (argC (ret (.int 1)) argN))) mkTup) (argC (bnd (argC (ret (.bl true)) (argC (getv 3) argN)) mkTup) argN)))) mkLst))) argN)))))) (ret .nx))
theorem fn_bent (j n : Nat) (x : D) (s : S) {E e' : List Sl} {ms1 ms' : List (List D)} {d : D}
    (h1 : bentIf (f_law_bent j) ⟨[.val (.ref n), .val x, .un, .un, .un, .un, .un, .un], s.ms⟩ = .ok .nx ⟨E, ms1⟩)
    (h2 : bentRest (f_law_bent j) ⟨E, ms1⟩ = .ok (.ret d) ⟨e', ms'⟩) : f_law_bent (j + 1) [.ref n, x] s = .ok d ⟨s.env, ms'⟩ := by
  show fnM 8 2 (seqS (bentIf (f_law_bent j)) (bentRest (f_law_bent j))) _ _ = _
  simp [fnM, seqS, bnd, h1, h2]
theorem fn_bent2 (j n : Nat) (x : D) (s : S) {e' : List Sl} {ms' : List (List D)} {d : D}
    (h1 : bentIf (f_law_bent j) ⟨[.val (.ref n), .val x, .un, .un, .un, .un, .un, .un], s.ms⟩ = .ok (.ret d) ⟨e', ms'⟩) : f_law_bent (j + 1) [.ref n, x] s = .ok d ⟨s.env, ms'⟩ := by
  show fnM 8 2 (seqS (bentIf (f_law_bent j)) (bentRest (f_law_bent j))) _ _ = _
  simp [fnM, seqS, bnd, h1, Mp.ret]
theorem bent_tup (j k : Nat) (xs : List D) (h0 : xs ≠ []) (hl : xs.length ≤ 60) (hg : ∀ x ∈ xs, gd k x = true) (hb : ∀ x ∈ xs, Bn k j x) (ht : ∀ x ∈ xs, ∃ ys, x = .tup ys) : Bn (k + 1) (j + 1) (.tup xs) := by
  intro n s h
  obtain ⟨e7, h1⟩ : ∃ e7, bentIf (f_law_bent j) ⟨[.val (.ref n), .val (.tup xs), .un, .un, .un, .un, .un, .un], s.ms⟩ = .ok .nx ⟨[.val (.ref n), .val (.tup xs), .un, .un, .un, .un, .un, e7], s.ms⟩ := by
    by_cases c : xs.length = 2
    · obtain ⟨x, y, rfl⟩ : ∃ x y, xs = [x, y] := by
        match xs, c with
        | [x, y], _ => exact ⟨x, y, rfl⟩
      obtain ⟨ys, rfl⟩ := ht x (by simp)
      obtain ⟨zs, rfl⟩ := ht y (by simp)
      have hc : c1_law_bent (f_law_bent j) ⟨[.val (.ref n), .val (.tup [.tup ys, .tup zs]), .un, .un, .un, .un, .un, .un], s.ms⟩ = .ok [.bl false, .bl false] ⟨restE [.val (.ref n), .val (.tup [.tup ys, .tup zs]), .un, .un, .un, .un, .un, .un] (wipeE [.val (.ref n), .val (.tup [.tup ys, .tup zs]), .un, .un, .un, .un, .un, .un] [7]) [7], s.ms⟩ := by
        have := lcM_pure (vs := [7]) (src := seqI (getv 1)) (t := setv 7) (c := yesM) (f := ce1_law_bent (f_law_bent j)) (fun _ => some (.bl false))
          (s := ⟨[.val (.ref n), .val (.tup [.tup ys, .tup zs]), .un, .un, .un, .un, .un, .un], s.ms⟩) (s1 := ⟨[.val (.ref n), .val (.tup [.tup ys, .tup zs]), .un, .un, .un, .un, .un, .un], s.ms⟩) (xs := [.tup ys, .tup zs]) (by simp [fnM, bnd, Mp.ret, lift, stk, seqS, retS, asgS, dropS, ifS, setv, getv, peekv, op1, op2, ap1, ap2, asB, chain2, testM, truM, truO, andV, orV, notV, ifV, andB, orB, notB, argN, argC, mkTup, mkLst, frzd, callM, onMs, subsO, lenO, absO, isiO, D.tg, isTy, tgtT, tgtC, tgtN, par2, par3, forS, seqI, srcD, catO, addO, subO, repO, mulO, fdivO, modO, negO, ltO, leO, gtO, geO, cmpI, gcdO, maxO, minO, intO, tupleO, listO]) (by simp) (by simp) (by
            intro z hz
            obtain ⟨us, rfl⟩ := ht z hz
            refine ⟨[.val (.ref n), .val (.tup [.tup ys, .tup zs]), .un, .un, .un, .un, .un, .val (.tup us)], ?_, by simp [wipeE]⟩
            simp [lcT, wipeE, yesM, ce1_law_bent, fnM, bnd, Mp.ret, lift, stk, seqS, retS, asgS, dropS, ifS, setv, getv, peekv, op1, op2, ap1, ap2, asB, chain2, testM, truM, truO, andV, orV, notV, ifV, andB, orB, notB, argN, argC, mkTup, mkLst, frzd, callM, onMs, subsO, lenO, absO, isiO, D.tg, isTy, tgtT, tgtC, tgtN, par2, par3, forS, seqI, srcD, catO, addO, subO, repO, mulO, fdivO, modO, negO, ltO, leO, gtO, geO, cmpI, gcdO, maxO, minO, intO, tupleO, listO])
        unfold c1_law_bent
        rw [this]
        rfl
      have ha : ∀ s, allO (.lst [.bl false, .bl false]) s = some (.bl false) := fun _ => rfl
      refine ⟨keepVal (some .un), ?_⟩
      simp [bentIf, eq_int, hc, ha, restE, wipeE, fnM, bnd, Mp.ret, lift, stk, seqS, retS, asgS, dropS, ifS, setv, getv, peekv, op1, op2, ap1, ap2, asB, chain2, testM, truM, truO, andV, orV, notV, ifV, andB, orB, notB, argN, argC, mkTup, mkLst, frzd, callM, onMs, subsO, lenO, absO, isiO, D.tg, isTy, tgtT, tgtC, tgtN, par2, par3, forS, seqI, srcD, catO, addO, subO, repO, mulO, fdivO, modO, negO, ltO, leO, gtO, geO, cmpI, gcdO, maxO, minO, intO, tupleO, listO]
    · refine ⟨.un, ?_⟩
      have c' : ¬ ((xs.length : Nat) : Int) = 2 := by omega
      simp [bentIf, eq_int, c', fnM, bnd, Mp.ret, lift, stk, seqS, retS, asgS, dropS, ifS, setv, getv, peekv, op1, op2, ap1, ap2, asB, chain2, testM, truM, truO, andV, orV, notV, ifV, andB, orB, notB, argN, argC, mkTup, mkLst, frzd, callM, onMs, subsO, lenO, absO, isiO, D.tg, isTy, tgtT, tgtC, tgtN, par2, par3, forS, seqI, srcD, catO, addO, subO, repO, mulO, fdivO, modO, negO, ltO, leO, gtO, geO, cmpI, gcdO, maxO, minO, intO, tupleO, listO]
  obtain ⟨d, e', ms', h2, g, kp⟩ := bent_rest j k xs h0 hl hg hb n s.ms h e7
  exact ⟨d, ms', fn_bent j n _ s h1 h2, g, kp⟩
theorem bent_ratio (j : Nat) (a b : Int) (ha : a.natAbs < 2 ^ 20) (hb : b.natAbs < 2 ^ 20) : Bn 1 (j + 2) (.tup [.int a, .int b]) := by
  intro n s h
  have hc : ∀ ms, c1_law_bent (f_law_bent (j + 1)) ⟨[.val (.ref n), .val (.tup [.int a, .int b]), .un, .un, .un, .un, .un, .un], ms⟩ = .ok [.bl true, .bl true] ⟨restE [.val (.ref n), .val (.tup [.int a, .int b]), .un, .un, .un, .un, .un, .un] (wipeE [.val (.ref n), .val (.tup [.int a, .int b]), .un, .un, .un, .un, .un, .un] [7]) [7], ms⟩ := by
    intro ms
    have := lcM_pure (vs := [7]) (src := seqI (getv 1)) (t := setv 7) (c := yesM) (f := ce1_law_bent (f_law_bent (j + 1))) (fun _ => some (.bl true))
      (s := ⟨[.val (.ref n), .val (.tup [.int a, .int b]), .un, .un, .un, .un, .un, .un], ms⟩) (s1 := ⟨[.val (.ref n), .val (.tup [.int a, .int b]), .un, .un, .un, .un, .un, .un], ms⟩) (xs := [.int a, .int b]) (by simp [fnM, bnd, Mp.ret, lift, stk, seqS, retS, asgS, dropS, ifS, setv, getv, peekv, op1, op2, ap1, ap2, asB, chain2, testM, truM, truO, andV, orV, notV, ifV, andB, orB, notB, argN, argC, mkTup, mkLst, frzd, callM, onMs, subsO, lenO, absO, isiO, D.tg, isTy, tgtT, tgtC, tgtN, par2, par3, forS, seqI, srcD, catO, addO, subO, repO, mulO, fdivO, modO, negO, ltO, leO, gtO, geO, cmpI, gcdO, maxO, minO, intO, tupleO, listO]) (by simp) (by simp) (by
        intro z hz
        obtain ⟨i, rfl⟩ : ∃ i, z = .int i := by
          rcases (by simpa using hz : z = .int a ∨ z = .int b) with rfl | rfl
          · exact ⟨_, rfl⟩
          · exact ⟨_, rfl⟩
        refine ⟨[.val (.ref n), .val (.tup [.int a, .int b]), .un, .un, .un, .un, .un, .val (.int i)], ?_, by simp [wipeE]⟩
        simp [lcT, wipeE, yesM, ce1_law_bent, fnM, bnd, Mp.ret, lift, stk, seqS, retS, asgS, dropS, ifS, setv, getv, peekv, op1, op2, ap1, ap2, asB, chain2, testM, truM, truO, andV, orV, notV, ifV, andB, orB, notB, argN, argC, mkTup, mkLst, frzd, callM, onMs, subsO, lenO, absO, isiO, D.tg, isTy, tgtT, tgtC, tgtN, par2, par3, forS, seqI, srcD, catO, addO, subO, repO, mulO, fdivO, modO, negO, ltO, leO, gtO, geO, cmpI, gcdO, maxO, minO, intO, tupleO, listO])
    unfold c1_law_bent
    rw [this]
    rfl
  have hall : ∀ s, allO (.lst [.bl true, .bl true]) s = some (.bl true) := fun _ => rfl
  obtain ⟨k1, s1, e1, a1, a2, kp1⟩ := k_draw n 4 ⟨[], s.ms⟩ h (by decide) (by decide)
  by_cases c : 0 < k1
  · have m1 : mulOk 2 a = true := mulOk_of (n := 2) (m := 20) (by decide) ha (by decide)
    have m2 : mulOk 2 b = true := mulOk_of (n := 2) (m := 20) (by decide) hb (by decide)
    obtain ⟨u, hu, u0, u1⟩ : ∃ u : Int, (if (1 : Int) < b then b else 1) = u ∧ 0 < u ∧ u.natAbs < 2 ^ 20 := by
      by_cases cb : (1 : Int) < b
      · exact ⟨b, if_pos cb, by omega, hb⟩
      · exact ⟨1, if_neg cb, by decide, by decide⟩
    have m3 : mulOk 2 u = true := mulOk_of (n := 2) (m := 20) (by decide) u1 (by decide)
    have hl := fun s => e_law_low (2 * a + 1) (2 * u) s (by omega) (k := 30) (by omega) (by decide)
    have bl : Bd 100 (Rat.divInt (2 * a + 1) (2 * u)) := Bd.low (by omega) (by omega) (by omega)
    generalize Rat.divInt (2 * a + 1) (2 * u) = q at hl bl
    obtain ⟨d, s2, e2, hd, kp2⟩ := k_pick n [.tup [.int (a + 1), .int b], .tup [.int (a - 1), .int b], .tup [.int (2 * a), .int (2 * b)], .tup [.int a, .int 0], .tup [.int (0 - a), .int b], .non, rd q, .lst [.int a, .int b], .tup [.int a, .int b, .int 1], .tup [.bl true, .int b]] ⟨[], s1⟩ kp1.pot (by simp) (by simp) _ (.inl rfl)
    refine ⟨d, s2, fn_bent2 (j + 1) n _ s (e' := [.val (.ref n), .val (.tup [.int a, .int b]), .val (.int a), .val (.int b), .val (.lst [.tup [.int (a + 1), .int b], .tup [.int (a - 1), .int b], .tup [.int (2 * a), .int (2 * b)], .tup [.int a, .int 0], .tup [.int (0 - a), .int b], .non]), .un, .un, keepVal (some .un)]) ?_, ?_, kp1.trans kp2⟩
    · simp only [Int.zero_sub] at e2
      simp [bentIf, eq_int, hc, hall, restE, wipeE, e1, c, m1, m2, m3, hu, hl, e2, fnM, bnd, Mp.ret, lift, stk, seqS, retS, asgS, dropS, ifS, setv, getv, peekv, op1, op2, ap1, ap2, asB, chain2, testM, truM, truO, andV, orV, notV, ifV, andB, orB, notB, argN, argC, mkTup, mkLst, frzd, callM, onMs, subsO, lenO, absO, isiO, D.tg, isTy, tgtT, tgtC, tgtN, par2, par3, forS, seqI, srcD, catO, addO, subO, repO, mulO, fdivO, modO, negO, ltO, leO, gtO, geO, cmpI, gcdO, maxO, minO, intO, tupleO, listO]
    · have p1 : ∀ i : Int, i.natAbs < 2 ^ 22 → gd 0 (.int i) = true := fun i hi => gd0_int (by omega) 0
      rcases (by simpa using hd : d = .tup [.int (a + 1), .int b] ∨ d = .tup [.int (a - 1), .int b] ∨ d = .tup [.int (2 * a), .int (2 * b)] ∨ d = .tup [.int a, .int 0] ∨ d = .tup [.int (0 - a), .int b] ∨ d = .non ∨ d = rd q ∨ d = .lst [.int a, .int b] ∨ d = .tup [.int a, .int b, .int 1] ∨ d = .tup [.bl true, .int b]) with rfl | rfl | rfl | rfl | rfl | rfl | rfl | rfl | rfl | rfl
      · exact gd_mk (by simp) (by simp [p1 (a + 1) (by omega), p1 b (by omega)])
      · exact gd_mk (by simp) (by simp [p1 (a - 1) (by omega), p1 b (by omega)])
      · exact gd_mk (by simp) (by simp [p1 (2 * a) (by omega), p1 (2 * b) (by omega)])
      · exact gd_mk (by simp) (by simp [p1 a (by omega), p1 0 (by omega)])
      · exact gd_mk (by simp) (by simp only [List.mem_cons, List.not_mem_nil, or_false, forall_eq_or_imp, forall_eq]; exact ⟨p1 _ (by omega), p1 _ (by omega)⟩)
      · rfl
      · exact gd_rd bl 0
      · rfl
      · exact gd_mk (by simp) (by simp [p1 a (by omega), p1 b (by omega), p1 1 (by omega)])
      · exact gd_mk (by simp) (by simp [p1 b (by omega), show gd 0 (.bl true) = true from rfl])
  · have h1 : bentIf (f_law_bent (j + 1)) ⟨[.val (.ref n), .val (.tup [.int a, .int b]), .un, .un, .un, .un, .un, .un], s.ms⟩ = .ok .nx ⟨[.val (.ref n), .val (.tup [.int a, .int b]), .un, .un, .un, .un, .un, keepVal (some .un)], s1⟩ := by
      simp [bentIf, eq_int, hc, hall, restE, wipeE, e1, c, fnM, bnd, Mp.ret, lift, stk, seqS, retS, asgS, dropS, ifS, setv, getv, peekv, op1, op2, ap1, ap2, asB, chain2, testM, truM, truO, andV, orV, notV, ifV, andB, orB, notB, argN, argC, mkTup, mkLst, frzd, callM, onMs, subsO, lenO, absO, isiO, D.tg, isTy, tgtT, tgtC, tgtN, par2, par3, forS, seqI, srcD, catO, addO, subO, repO, mulO, fdivO, modO, negO, ltO, leO, gtO, geO, cmpI, gcdO, maxO, minO, intO, tupleO, listO]
    obtain ⟨d, e', ms', h2, g, kp⟩ := bent_rest (j + 1) 0 [.int a, .int b] (by simp) (by simp) (by
      intro x hx
      rcases (by simpa using hx : x = .int a ∨ x = .int b) with rfl | rfl
      · exact gd0_int (by omega) 0
      · exact gd0_int (by omega) 0) (by
      intro x hx
      rcases (by simpa using hx : x = .int a ∨ x = .int b) with rfl | rfl
      · exact bent_int j _ ha
      · exact bent_int j _ hb) n s1 kp1.pot (keepVal (some .un))
    exact ⟨d, ms', fn_bent (j + 1) n _ s h1 h2, g, kp1.trans kp⟩
theorem bent_rd (j : Nat) {q : Rat} (h : Bd 20 q) : Bn 1 (j + 2) (rd q) := bent_ratio j _ _ h.1 (by simpa using h.2)
theorem bent_md (j : Nat) {m : Ma} (h : BM 20 m) : Bn 2 (j + 3) (md m) := by
  refine bent_tup (j + 2) 1 [rd m.x, rd m.y, rd m.h] (by simp) (by simp) ?_ ?_ ?_
  · intro x hx
    rcases (by simpa using hx : x = rd m.x ∨ x = rd m.y ∨ x = rd m.h) with rfl | rfl | rfl
    · exact gd_rd (h.1.mono (by decide)) 0
    · exact gd_rd (h.2.1.mono (by decide)) 0
    · exact gd_rd (h.2.2.mono (by decide)) 0
  · intro x hx
    rcases (by simpa using hx : x = rd m.x ∨ x = rd m.y ∨ x = rd m.h) with rfl | rfl | rfl
    · exact bent_rd j h.1
    · exact bent_rd j h.2.1
    · exact bent_rd j h.2.2
  · intro x hx
    rcases (by simpa using hx : x = rd m.x ∨ x = rd m.y ∨ x = rd m.h) with rfl | rfl | rfl
    · exact ⟨_, rfl⟩
    · exact ⟨_, rfl⟩
    · exact ⟨_, rfl⟩
theorem bent_ms (j : Nat) {ms : List Ma} (h0 : ms ≠ []) (hl : ms.length ≤ 60) (h : ∀ m ∈ ms, BM 20 m) : Bn 3 (j + 4) (.tup (ms.map md)) := by
  refine bent_tup (j + 3) 2 (ms.map md) (by simpa using h0) (by simpa using hl) ?_ ?_ ?_
  · intro x hx
    obtain ⟨m, hm, rfl⟩ := List.mem_map.mp hx
    exact gd_md ((h m hm).mono (by decide)) 0
  · intro x hx
    obtain ⟨m, hm, rfl⟩ := List.mem_map.mp hx
    exact bent_md j (h m hm)
  · intro x hx
    obtain ⟨m, hm, rfl⟩ := List.mem_map.mp hx
    exact ⟨_, rfl⟩
end K61

set_option linter.all false
set_option maxRecDepth 100000
namespace Mp
open PySem (PyData)
structure Sw (w e : Nat) (y : PyData) : Prop where
  s : y.showable = true
  d : y.depth ≤ e
  l : y.leavesShort 2000 = true
  h : y.hasDict = false
  b : y.bulk ≤ w
structure SwA (w e : Nat) (ys : List PyData) : Prop where
  s : PyData.showableAll ys = true
  d : PyData.depthAll ys ≤ e
  l : PyData.leavesShortAll 2000 ys = true
  h : PyData.hasDictAll ys = false
  b : PyData.bulkAll ys ≤ w
theorem Sw.bl (b : Bool) : Sw 0 0 (.bool b) := ⟨by simp only [PyData.showable], by simp [PyData.depth], by simp only [PyData.leavesShort], by simp only [PyData.hasDict], by simp [PyData.bulk]⟩
theorem Sw.int {i : Int} (h : i.natAbs < 2 ^ 1900) : Sw 0 0 (.int i) := by
  have h1 : i.natAbs.log2 < 1900 := log2_lt_of h (by decide)
  have h2 := PySem.int_text_length_le (k := 1900) (by decide) h1
  refine ⟨by simp only [PyData.showable, decide_eq_true_eq]; omega, by simp [PyData.depth], ?_, by simp only [PyData.hasDict], by simp [PyData.bulk]⟩
  unfold PyData.leavesShort
  refine decide_eq_true ?_
  show (PySem.Str.ofString (toString i)).length ≤ 2000
  rw [PySem.ofString_length]
  omega
theorem SwA.nil (w e : Nat) : SwA w e [] := ⟨by simp only [PyData.showableAll], by simp [PyData.depthAll], by simp only [PyData.leavesShortAll], by simp only [PyData.hasDictAll], by simp [PyData.bulkAll]⟩
theorem SwA.cons {w1 w2 e : Nat} {y : PyData} {ys : List PyData} (h : Sw w1 e y) (k : SwA w2 e ys) : SwA (w1 + 1 + w2) e (y :: ys) := by
  refine ⟨by simp only [PyData.showableAll, h.s, k.s, Bool.and_self], ?_, by simp only [PyData.leavesShortAll, h.l, k.l, Bool.and_self], by simp only [PyData.hasDictAll, h.h, k.h, Bool.or_self], ?_⟩
  · have := h.d; have := k.d
    simp only [PyData.depthAll]
    omega
  · have := h.b; have := k.b
    simp only [PyData.bulkAll]
    omega
theorem Sw.mono {w w' e e' : Nat} {y : PyData} (h : Sw w e y) (a : w ≤ w') (b : e ≤ e') : Sw w' e' y := ⟨h.s, Nat.le_trans h.d b, h.l, h.h, Nat.le_trans h.b a⟩
/-- a value that repr shows -/
def Rp (w e : Nat) (x : D) : Prop := ∃ y, x.py = some y ∧ Sw w e y
theorem Rp.mono {w w' e e' : Nat} {x : D} (h : Rp w e x) (a : w ≤ w') (b : e ≤ e') : Rp w' e' x := by
  obtain ⟨y, h1, h2⟩ := h
  exact ⟨y, h1, h2.mono a b⟩
theorem Rp.int {i : Int} (h : i.natAbs < 2 ^ 1900) : Rp 0 0 (.int i) := ⟨_, rfl, Sw.int h⟩
theorem Rp.bl (b : Bool) : Rp 0 0 (.bl b) := ⟨_, rfl, Sw.bl b⟩
theorem Rp.all {w e : Nat} : ∀ {xs : List D}, (∀ x ∈ xs, Rp w e x) → ∃ ys, D.py.pys xs = some ys ∧ SwA ((w + 1) * xs.length) e ys
  | [], _ => ⟨[], rfl, SwA.nil _ _⟩
  | x :: xs, h => by
    obtain ⟨y, h1, h2⟩ := h x List.mem_cons_self
    obtain ⟨ys, h3, h4⟩ := Rp.all fun z hz => h z (List.mem_cons_of_mem _ hz)
    refine ⟨y :: ys, ?_, ?_⟩
    · unfold D.py.pys
      rw [h1, h3]
    · have := SwA.cons h2 h4
      rw [List.length_cons, Nat.mul_add, Nat.mul_one, Nat.add_comm]
      exact this
theorem Rp.tup {w e : Nat} {xs : List D} (h : ∀ x ∈ xs, Rp w e x) : Rp ((w + 1) * xs.length) (e + 1) (.tup xs) := by
  obtain ⟨ys, h1, h2⟩ := Rp.all h
  refine ⟨.tuple ys, by unfold D.py; rw [h1]; rfl, by simp only [PyData.showable, h2.s], ?_, by simp only [PyData.leavesShort, h2.l], by simp only [PyData.hasDict, h2.h], by simp only [PyData.bulk]; exact h2.b⟩
  have := h2.d
  simp only [PyData.depth]
  omega
theorem Rp.lst {w e : Nat} {xs : List D} (h : ∀ x ∈ xs, Rp w e x) : Rp ((w + 1) * xs.length) (e + 1) (.lst xs) := by
  obtain ⟨ys, h1, h2⟩ := Rp.all h
  refine ⟨.list ys, by unfold D.py; rw [h1]; rfl, by simp only [PyData.showable, h2.s], ?_, by simp only [PyData.leavesShort, h2.l], by simp only [PyData.hasDict, h2.h], by simp only [PyData.bulk]; exact h2.b⟩
  have := h2.d
  simp only [PyData.depth]
  omega
theorem Rp.repr {w e : Nat} {x : D} (h : Rp w e x) (a : w ≤ 4900) (b : e ≤ 60) : ∃ t, ∀ s, reprO x s = some (.str t) := by
  obtain ⟨y, h1, h2⟩ := h
  have h3 := PySem.PyData.shown_le_bulk 2000 (by decide) y h2.l
  have h4 : (2000 + 2) * y.bulk ≤ 2002 * 4900 := Nat.mul_le_mul_left 2002 (Nat.le_trans h2.b a)
  have h5 : y.shown.length ≤ 10000000 := by omega
  have h6 : y.depth ≤ 60 := Nat.le_trans h2.d b
  refine ⟨y.shown, fun s => ?_⟩
  unfold reprO
  rw [h1]
  simp [h2.s, h6, h5, h2.h]
theorem ne_str (t : PySem.Str) (s : S) : neO (.str t) (.str t) s = some (.bl false) := by
  simp [neO, eqD]
theorem eq_str (t : PySem.Str) (s : S) : eqO (.str t) (.str t) s = some (.bl true) := by
  simp [eqO, eqD]
end Mp
namespace K61
open Mp
open PySem (PyData)
theorem Rp_rd {q : Rat} (h : Bd 1900 q) : Rp 2 1 (rd q) := by
  have := Rp.tup (w := 0) (e := 0) (xs := [.int q.num, .int (q.den : Int)]) (by
    intro x hx
    rcases (by simpa using hx : x = .int q.num ∨ x = .int (q.den : Int)) with rfl | rfl
    · exact Rp.int h.1
    · exact Rp.int h.den)
  exact this
theorem Rp_md {m : Ma} (h : BM 1900 m) : Rp 9 2 (md m) := by
  have := Rp.tup (w := 2) (e := 1) (xs := [rd m.x, rd m.y, rd m.h]) (by
    intro x hx
    rcases (by simpa using hx : x = rd m.x ∨ x = rd m.y ∨ x = rd m.h) with rfl | rfl | rfl
    · exact Rp_rd h.1
    · exact Rp_rd h.2.1
    · exact Rp_rd h.2.2)
  exact this
theorem Rp_ms {ms : List Ma} (h : ∀ m ∈ ms, BM 1900 m) : Rp (10 * ms.length) 3 (.tup (ms.map md)) := by
  have := Rp.tup (w := 9) (e := 2) (xs := ms.map md) (by
    intro x hx
    obtain ⟨m, hm, rfl⟩ := List.mem_map.mp hx
    exact Rp_md (h m hm))
  rwa [List.length_map] at this
theorem Rp_two {w e : Nat} {x : D} (h : Rp w e x) : Rp ((w + 1) * 2) (e + 1) (.lst [x, x]) := Rp.lst (xs := [x, x]) (by
  intro y hy
  have : y = x := by simpa using hy
  rw [this]; exact h)
theorem Rp_idxs {qs : List Rat} (hl : qs.length ≤ 1000) : Rp qs.length 1 (.lst (idxs qs)) := by
  have := Rp.lst (w := 0) (e := 0) (xs := idxs qs) (by
    intro x hx
    unfold idxs at hx
    obtain ⟨i, hi, e⟩ := List.mem_filterMap.mp hx
    have hi := List.mem_range.mp hi
    split at e
    · cases e
      exact Rp.int (Nat.lt_of_lt_of_le (by omega : ((i : Nat) : Int).natAbs < 2 ^ 10) (Nat.pow_le_pow_right (by decide) (by decide)))
    · cases e)
  refine this.mono ?_ (Nat.le_refl _)
  have h1 : (idxs qs).length ≤ (List.range qs.length).length := by unfold idxs; exact List.length_filterMap_le ..
  rw [List.length_range] at h1
  omega
theorem ne_rd (q : Rat) (s : S) : neO (rd q) (rd q) s = some (.bl false) := by
  have h1 := (eqv_pr q q).mpr rfl
  have h2 : PySem.SeqAt.shaped (pr q) = true := by simp [pr, PySem.SeqAt.shaped, PyData.canLay0, PyData.canLayAll0, PyData.depth, PyData.depthAll]
  have : eqD (rd q) (rd q) = some true := by
    unfold eqD
    simp only [rd]
    rw [show (D.tup [.int q.num, .int (q.den : Int)]) = rd q from rfl, py_rd]
    simp [h1, h2]
  simp [neO, this]
theorem ne_md (m : Ma) (s : S) : neO (md m) (md m) s = some (.bl false) := by
  have h1 := (eqv_pm m m).mpr rfl
  have h2 := shaped_pm m
  have : eqD (md m) (md m) = some true := by
    unfold eqD
    simp only [md]
    rw [show (D.tup [rd m.x, rd m.y, rd m.h]) = md m from rfl, py_md]
    simp [h1, h2]
  simp [neO, this]
end K61

set_option linter.all false
set_option maxRecDepth 100000
namespace K61
open Mp
theorem e_pot (xs : List Int) (k : Nat) (s : S) (hk : k ≤ 10) : ∃ a b : Int, f_law_pot [.scr (xs.map .int), .int (k : Nat)] s = .ok (.ref s.ms.length) ⟨s.env, s.ms ++ [[.int a, .int b]]⟩ ∧ 0 ≤ a ∧ 0 ≤ b ∧ b < 2 ^ 40 := by
  have hp : powOk 10 18 = true := by decide
  have m0 : mulOk 4507 (k : Int) = true := mulOk_of (n := 20) (m := 20) (by decide) (by omega) (by decide)
  have m3 : mulOk 1483 (k : Int) = true := mulOk_of (n := 20) (m := 20) (by decide) (by omega) (by decide)
  have key : ∀ c : Int, 0 ≤ c → ∃ a b : Int, (∀ e : List Sl, (retS (refd (bnd (argC (op2 maxO (ret (.int 0)) (op2 subO (peekv 2) (op2 powO (ret (.int 10)) (ret (.int 18))))) (argC (op2 catO (op2 modO (op1 intO (op2 catO (op2 catO (op2 repO (op2 modO (op1 intO (peekv 2)) (ret (.int 2147483549))) (ret (.int 40014))) (op2 repO (ret (.int 4507)) (peekv 1))) (ret (.int 1117)))) (ret (.int 2147483563))) (ret (.int 1))) argN)) mkLst))) ⟨[.val (.scr (xs.map .int)), .val (.int (k : Nat)), .val (.int c)], s.ms⟩ = .ok (.ret (.ref s.ms.length)) ⟨[.val (.scr (xs.map .int)), .val (.int (k : Nat)), .val (.int c)], s.ms ++ [[.int a, .int b]]⟩) ∧ 0 ≤ a ∧ 0 ≤ b ∧ b < 2 ^ 40 := by
    intro c hc
    have f1 : c.fmod 2147483549 = c % 2147483549 := Int.fmod_eq_emod_of_nonneg _ (by decide)
    have b0 : 0 ≤ c % 2147483549 := Int.emod_nonneg _ (by decide)
    have b1 : c % 2147483549 < 2147483549 := Int.emod_lt_of_pos _ (by decide)
    have p18 : (10 : Int) ^ 18 = 1000000000000000000 := by decide
    generalize c % 2147483549 = r at f1 b0 b1
    have m1 : mulOk r 40014 = true := mulOk_of (n := 40) (m := 20) (by omega) (by decide) (by decide)
    have f2 : ∀ z : Int, z.fmod 2147483563 = z % 2147483563 := fun z => Int.fmod_eq_emod_of_nonneg _ (by decide)
    have g0 := Int.emod_nonneg (r * 40014 + 4507 * (k : Int) + 1117) (b := 2147483563) (by decide)
    have g1 := Int.emod_lt_of_pos (r * 40014 + 4507 * (k : Int) + 1117) (b := 2147483563) (by decide)
    generalize hz : (r * 40014 + 4507 * (k : Int) + 1117) % 2147483563 = z at g0 g1
    obtain ⟨a, ha, a0⟩ : ∃ a : Int, (if 0 < c - 1000000000000000000 then c - 1000000000000000000 else 0) = a ∧ 0 ≤ a := by
      split
      · exact ⟨_, rfl, by omega⟩
      · exact ⟨_, rfl, by omega⟩
    refine ⟨a, z + 1, fun _ => ?_, a0, by omega, by omega⟩
    have ha' : (if 1000000000000000000 < c then c - 1000000000000000000 else 0) = a := by
      rw [← ha]
      split <;> split <;> omega
    simp [m0, m1, f1, f2, hz, hp, powO, p18, ha, ha', refd, fnM, bnd, Mp.ret, lift, stk, seqS, retS, asgS, dropS, ifS, setv, getv, peekv, op1, op2, ap1, ap2, asB, chain2, testM, truM, truO, andV, orV, notV, ifV, andB, orB, notB, argN, argC, mkTup, mkLst, frzd, callM, onMs, subsO, lenO, absO, isiO, D.tg, isTy, tgtT, tgtC, tgtN, par2, par3, forS, seqI, srcD, catO, addO, subO, repO, mulO, fdivO, modO, negO, ltO, leO, gtO, geO, cmpI, gcdO, maxO, minO, intO, tupleO, listO]
  by_cases c : k < xs.length
  · have hx : L2.atI (xs.map D.int) (k : Int) = some (.int xs[k]) := atN (by rw [List.getElem?_map, List.getElem?_eq_getElem c]; rfl)
    obtain ⟨cc, hcc, hc0⟩ : ∃ cc : Int, (if xs[k] < 0 then -xs[k] else xs[k]) = cc ∧ 0 ≤ cc := by
      split
      · exact ⟨_, rfl, by omega⟩
      · exact ⟨_, rfl, by omega⟩
    obtain ⟨a, b, h, a0, b0, b1⟩ := key cc hc0
    refine ⟨a, b, ?_, a0, b0, b1⟩
    have h := h []
    simp only [f_law_pot, m_law_pot]
    generalize (retS (refd (bnd (argC (op2 maxO (ret (.int 0)) (op2 subO (peekv 2) (op2 powO (ret (.int 10)) (ret (.int 18))))) (argC (op2 catO (op2 modO (op1 intO (op2 catO (op2 catO (op2 repO (op2 modO (op1 intO (peekv 2)) (ret (.int 2147483549))) (ret (.int 40014))) (op2 repO (ret (.int 4507)) (peekv 1))) (ret (.int 1117)))) (ret (.int 2147483563))) (ret (.int 1))) argN)) mkLst))) = R at *
    have hlen : (xs.map D.int).length = xs.length := List.length_map ..
    have c2 : (k : Int) < (xs.length : Int) := by omega
    generalize xs.map D.int = ys at *
    simp [c, hx, hcc, h, hlen, fnM, bnd, Mp.ret, lift, stk, seqS, retS, asgS, dropS, ifS, setv, getv, peekv, op1, op2, ap1, ap2, asB, chain2, testM, truM, truO, andV, orV, notV, ifV, andB, orB, notB, argN, argC, mkTup, mkLst, frzd, callM, onMs, subsO, lenO, absO, isiO, D.tg, isTy, tgtT, tgtC, tgtN, par2, par3, forS, seqI, srcD, catO, addO, subO, repO, mulO, fdivO, modO, negO, ltO, leO, gtO, geO, cmpI, gcdO, maxO, minO, intO, tupleO, listO]
  · obtain ⟨a, b, h, a0, b0, b1⟩ := key (1483 * (k : Int) + 461) (by omega)
    refine ⟨a, b, ?_, a0, b0, b1⟩
    have h := h []
    simp only [f_law_pot, m_law_pot]
    generalize (retS (refd (bnd (argC (op2 maxO (ret (.int 0)) (op2 subO (peekv 2) (op2 powO (ret (.int 10)) (ret (.int 18))))) (argC (op2 catO (op2 modO (op1 intO (op2 catO (op2 catO (op2 repO (op2 modO (op1 intO (peekv 2)) (ret (.int 2147483549))) (ret (.int 40014))) (op2 repO (ret (.int 4507)) (peekv 1))) (ret (.int 1117)))) (ret (.int 2147483563))) (ret (.int 1))) argN)) mkLst))) = R at *
    have hlen : (xs.map D.int).length = xs.length := List.length_map ..
    generalize xs.map D.int = ys at *
    simp [c, h, hlen, m3, fnM, bnd, Mp.ret, lift, stk, seqS, retS, asgS, dropS, ifS, setv, getv, peekv, op1, op2, ap1, ap2, asB, chain2, testM, truM, truO, andV, orV, notV, ifV, andB, orB, notB, argN, argC, mkTup, mkLst, frzd, callM, onMs, subsO, lenO, absO, isiO, D.tg, isTy, tgtT, tgtC, tgtN, par2, par3, forS, seqI, srcD, catO, addO, subO, repO, mulO, fdivO, modO, negO, ltO, leO, gtO, geO, cmpI, gcdO, maxO, minO, intO, tupleO, listO]
theorem pot_new {a b : Int} {ms : List (List D)} (h0 : 0 ≤ a) (h1 : 0 ≤ b) (h2 : b < 2 ^ 40) : PotI ms.length (ms ++ [[.int a, .int b]]) := ⟨a, b, by rw [List.getElem?_append_right (Nat.le_refl _), Nat.sub_self]; rfl, h0, h1, h2⟩
end K61

set_option linter.all false
set_option maxRecDepth 100000
namespace K61
open Mp
theorem rd_two : D.tup [.int 2, .int 1] = rd 2 := rfl
theorem rd_half : Bd 5 (Rat.divInt 1 2) := Bd.low (by decide) (by decide) (by decide)
theorem rd_half' : D.tup [.int 1, .int 2] = rd (Rat.divInt 1 2) := by
  rw [← low_eq (by decide)]
  rfl
theorem b2 : Bd 20 2 := Bd.mono (n := 2) ⟨by decide, by decide⟩ (by decide)
theorem ident (x y h p q : Rat) : p * p + q * q - (2 * x * p + 2 * y * q + -(x * x + y * y + h)) = (p - x) * (p - x) + (q - y) * (q - y) + h := by grind
theorem rd_neg (q : Rat) : D.tup [.int (-q.num), .int (q.den : Int)] = rd (-q) := rfl
theorem e_lb_place {ms : List Ma} (v : VM ms) {p : Rat × Rat} (hp : BP 20 p) {i : Nat} {m : Ma} (h : ms[i]? = some m) (e2 e5 e6 e7 e8 : Sl) (st : List (List D)) : ∃ e5' e6' e7' e8', lb1_law_place_right ⟨[.val (.tup (ms.map md)), .val (pd p), e2, .val (.int (i : Nat)), .val (md m), e5, e6, e7, e8], st⟩ = .ok .nx ⟨[.val (.tup (ms.map md)), .val (pd p), e2, .val (.int (i : Nat)), .val (md m), e5', e6', e7', e8'], st⟩ := by
  have hm := v.bd m (List.mem_of_getElem? h)
  have hrem := fun s => e_law_removal m p s hm hp (by decide)
  have hr := fun s => e_removal v hp h s
  have hpl := fun s => e_mast_plane v h s
  have up : ∀ {k : Nat} {q : Rat}, Bd k q → k ≤ 900 → Bd 900 q := fun b e => b.mono e
  obtain ⟨t, ht⟩ := (Rp_two (Rp_rd (q := remv m p) ((remv_bd hm hp (k := 900) (by decide)).mono (by decide)))).repr (by decide) (by decide)
  have bx := hm.1
  have by' := hm.2.1
  have bh := hm.2.2
  have bp := hp.1
  have bq := hp.2
  have bxx := bx.mul bx (k := 40) (by decide)
  have byy := by'.mul by' (k := 40) (by decide)
  have bs := bxx.add byy (k := 81) (by decide)
  have bo := bs.add bh (k := 102) (by decide)
  have b2x := b2.mul bx (k := 40) (by decide)
  have b2y := b2.mul by' (k := 40) (by decide)
  have bxp := b2x.mul bp (k := 60) (by decide)
  have byq := b2y.mul bq (k := 60) (by decide)
  have bt := bxp.add byq (k := 121) (by decide)
  have bg := bt.add bo.neg (k := 224) (by decide)
  have bpp := bp.mul bp (k := 40) (by decide)
  have bqq := bq.mul bq (k := 40) (by decide)
  have bpq := bpp.add bqq (k := 81) (by decide)
  have f1 := fun s => e_law_times m.x m.x s (up bx (by decide)) (up bx (by decide)) (by decide)
  have f2 := fun s => e_law_times m.y m.y s (up by' (by decide)) (up by' (by decide)) (by decide)
  have f3 := fun s => e_law_plus _ _ s (up bxx (by decide)) (up byy (by decide)) (by decide)
  have f4 := fun s => e_law_plus _ _ s (up bs (by decide)) (up bh (by decide)) (by decide)
  have f5 := fun s => e_law_times 2 m.x s (up b2 (by decide)) (up bx (by decide)) (by decide)
  have f6 := fun s => e_law_times 2 m.y s (up b2 (by decide)) (up by' (by decide)) (by decide)
  have f7 := fun s => e_law_times _ _ s (up b2x (by decide)) (up bp (by decide)) (by decide)
  have f8 := fun s => e_law_times _ _ s (up b2y (by decide)) (up bq (by decide)) (by decide)
  have f9 := fun s => e_law_plus _ _ s (up bxp (by decide)) (up byq (by decide)) (by decide)
  have f10 := fun s => e_law_plus _ _ s (up bt (by decide)) (up bo.neg (by decide)) (by decide)
  have f11 := fun s => e_law_times _ _ s (up bp (by decide)) (up bp (by decide)) (by decide)
  have f12 := fun s => e_law_times _ _ s (up bq (by decide)) (up bq (by decide)) (by decide)
  have f13 := fun s => e_law_plus _ _ s (up bpp (by decide)) (up bqq (by decide)) (by decide)
  have f14 := fun s => e_law_minus _ _ s (up bpq (by decide)) (up bg (by decide)) (by decide)
  have hid := ident m.x m.y m.h p.1 p.2
  have hne := fun s => ne_rd (remv m p) s
  have hns := fun s => ne_str t s
  have hnp := fun s => ne_md ⟨2 * m.x, 2 * m.y, -(m.x * m.x + m.y * m.y + m.h)⟩ s
  have ew : remv m p = (p.1 - m.x) * (p.1 - m.x) + (p.2 - m.y) * (p.2 - m.y) + m.h := rfl
  rw [← ew] at hid
  rw [hid] at f14
  have eo := rd_neg (m.x * m.x + m.y * m.y + m.h)
  have eo2 : rd (m.x * m.x + m.y * m.y + m.h) = D.tup [.int (m.x * m.x + m.y * m.y + m.h).num, .int ((m.x * m.x + m.y * m.y + m.h).den : Int)] := rfl
  have emd : md m = .tup [rd m.x, rd m.y, rd m.h] := rfl
  have epd : pd p = .tup [rd p.1, rd p.2] := rfl
  have emp : md ⟨2 * m.x, 2 * m.y, -(m.x * m.x + m.y * m.y + m.h)⟩ = .tup [rd (2 * m.x), rd (2 * m.y), rd (-(m.x * m.x + m.y * m.y + m.h))] := rfl
  rw [emp] at hnp
  rw [emd, epd] at hrem
  rw [epd] at hr
  rw [emd, epd]
  generalize hO : m.x * m.x + m.y * m.y + m.h = o at *
  clear hid emp emd epd ew
  generalize remv m p = r at *
  generalize ms.map md = L at *
  refine ⟨.val (rd r), .val (.tup [rd (2 * m.x), rd (2 * m.y), rd (-o)]), .val (rd o), .val (rd (2 * m.x * p.fst + 2 * m.y * p.snd + -o)), ?_⟩
  simp [lb1_law_place_right, rd_two, hrem, hr, hpl, ht, hne, hns, at0, at1, at2, f1, f2, f3, f4, f5, f6, f7, f8, f9, f10, f11, f12, f13, f14, hnp, eo2, eo, callK, reord, fnM, bnd, Mp.ret, lift, stk, seqS, retS, asgS, dropS, ifS, setv, getv, peekv, op1, op2, ap1, ap2, asB, chain2, testM, truM, truO, andV, orV, notV, ifV, andB, orB, notB, argN, argC, mkTup, mkLst, frzd, callM, onMs, subsO, lenO, absO, isiO, D.tg, isTy, tgtT, tgtC, tgtN, par2, par3, forS, seqI, srcD, catO, addO, subO, repO, mulO, fdivO, modO, negO, ltO, leO, gtO, geO, cmpI, gcdO, maxO, minO, intO, tupleO, listO]
/-- what the loop over the masts does -/
theorem loop_place {ms : List Ma} (v : VM ms) {p : Rat × Rat} (hp : BP 20 p) (e2 : Sl) (st : List (List D)) : ∀ (is : List Nat) (e3 e4 e5 e6 e7 e8 : Sl), (∀ i ∈ is, i < ms.length) → ∃ e', forL (tgtT 2 (tgtC (setv 3) (tgtC (setv 4) tgtN))) lb1_law_place_right (is.map fun i : Nat => D.tup [.int (i : Nat), (ms.map md).getD i .non]) ⟨[.val (.tup (ms.map md)), .val (pd p), e2, e3, e4, e5, e6, e7, e8], st⟩ = .ok .nx ⟨e', st⟩
  | [], e3, e4, e5, e6, e7, e8, _ => ⟨_, rfl⟩
  | i :: is, e3, e4, e5, e6, e7, e8, h => by
    have hi : i < ms.length := h i List.mem_cons_self
    have hm : ms[i]? = some (ms.getD i ⟨0, 0, 0⟩) := by rw [List.getD_eq_getElem?_getD, List.getElem?_eq_getElem hi]; rfl
    obtain ⟨f5, f6, f7, f8, hb⟩ := e_lb_place v hp hm e2 e5 e6 e7 e8 st
    obtain ⟨e', hl⟩ := loop_place v hp e2 st is (.val (.int (i : Nat))) (.val (md (ms.getD i ⟨0, 0, 0⟩))) f5 f6 f7 f8 fun j hj => h j (List.mem_cons_of_mem _ hj)
    refine ⟨e', ?_⟩
    rw [List.map_cons, getD_md hi]
    refine (forL_step (s1 := ⟨[.val (.tup (ms.map md)), .val (pd p), e2, .val (.int (i : Nat)), .val (md (ms.getD i ⟨0, 0, 0⟩)), e5, e6, e7, e8], st⟩) ?_ hb).trans hl
    generalize ms.map md = L at *
    generalize md (ms.getD i ⟨0, 0, 0⟩) = x at *
    generalize pd p = y at *
    simp [callK, reord, fnM, bnd, Mp.ret, lift, stk, seqS, retS, asgS, dropS, ifS, setv, getv, peekv, op1, op2, ap1, ap2, asB, chain2, testM, truM, truO, andV, orV, notV, ifV, andB, orB, notB, argN, argC, mkTup, mkLst, frzd, callM, onMs, subsO, lenO, absO, isiO, D.tg, isTy, tgtT, tgtC, tgtN, par2, par3, forS, seqI, srcD, catO, addO, subO, repO, mulO, fdivO, modO, negO, ltO, leO, gtO, geO, cmpI, gcdO, maxO, minO, intO, tupleO, listO]
theorem e_law_place_right {ms : List Ma} (v : VM ms) {p : Rat × Rat} (hp : BP 20 p) (s : S) : f_law_place_right [.tup (ms.map md), pd p] s = .ok (.bl true) s := by
  have h1 := fun s => e_law_nearest ms p s v.bd hp (by decide) (by have := v.len; omega)
  have h2 := fun s => e_nearest v hp s
  have hl : (ms.map fun m => remv m p).length ≤ 60 := by rw [List.length_map]; exact v.len
  obtain ⟨t, ht⟩ := (Rp_two (Rp_idxs (qs := ms.map fun m => remv m p) (by omega))).repr (by omega) (by decide)
  have hns := fun s => ne_str t s
  obtain ⟨e', h3⟩ := loop_place v hp (.val (.lst (idxs (ms.map fun m => remv m p)))) s.ms (List.range ms.length) .un .un .un .un .un .un fun i hi => List.mem_range.mp hi
  have hen : enumO [.tup (ms.map md)] = some ((List.range ms.length).map fun i : Nat => D.tup [.int (i : Nat), (ms.map md).getD i .non]) := by
    simp [enumO, enumL, callK, reord, fnM, bnd, Mp.ret, lift, stk, seqS, retS, asgS, dropS, ifS, setv, getv, peekv, op1, op2, ap1, ap2, asB, chain2, testM, truM, truO, andV, orV, notV, ifV, andB, orB, notB, argN, argC, mkTup, mkLst, frzd, callM, onMs, subsO, lenO, absO, isiO, D.tg, isTy, tgtT, tgtC, tgtN, par2, par3, forS, seqI, srcD, catO, addO, subO, repO, mulO, fdivO, modO, negO, ltO, leO, gtO, geO, cmpI, gcdO, maxO, minO, intO, tupleO, listO]
  generalize idxs (ms.map fun m => remv m p) = I at *
  generalize ((List.range ms.length).map fun i : Nat => D.tup [.int (i : Nat), (ms.map md).getD i .non]) = Z at *
  generalize ms.map md = L at *
  generalize pd p = x at *
  simp [f_law_place_right, m_law_place_right, l1_law_place_right, h1, h2, ht, hns, overA, hen, h3, callK, reord, fnM, bnd, Mp.ret, lift, stk, seqS, retS, asgS, dropS, ifS, setv, getv, peekv, op1, op2, ap1, ap2, asB, chain2, testM, truM, truO, andV, orV, notV, ifV, andB, orB, notB, argN, argC, mkTup, mkLst, frzd, callM, onMs, subsO, lenO, absO, isiO, D.tg, isTy, tgtT, tgtC, tgtN, par2, par3, forS, seqI, srcD, catO, addO, subO, repO, mulO, fdivO, modO, negO, ltO, leO, gtO, geO, cmpI, gcdO, maxO, minO, intO, tupleO, listO]
end K61

set_option linter.all false
set_option maxRecDepth 100000
namespace K61
open Mp
noncomputable def ph1 (k : M Fl) : M Fl :=
    (seqS (par3 (argC (op1 reprO (peekv 1)) (argC (callM f_law_pick (argC (getv 0) (argC (getv 1) argN))) (argC (callM f_law_pick (argC (getv 0) (argC (getv 1) argN))) argN))) 2 3 4)
    (seqS (ownS c3_law_right 5)
    (seqS (appS 5 (bnd (argC (callM f_law_times (argC (callM f_law_plus (argC (op2 subsO (peekv 3) (ret (.int 0))) (argC (op2 subsO (peekv 4) (ret (.int 0))) argN))) (argC (bnd (argC (ret (.int 1)) (argC (ret (.int 2)) argN)) mkTup) argN))) (argC (callM f_law_times (argC (callM f_law_plus (argC (op2 subsO (peekv 3) (ret (.int 1))) (argC (op2 subsO (peekv 4) (ret (.int 1))) argN))) (argC (bnd (argC (ret (.int 1)) (argC (ret (.int 2)) argN)) mkTup) argN))) argN)) mkTup))
    (seqS (appS 5 (bnd (argC (op2 subsO (peekv 3) (ret (.int 0))) (argC (op2 subsO (peekv 3) (ret (.int 1))) argN)) mkTup))
    (seqS (ifS (orB (notB (testM (op1 allO (frzd c2_law_right)))) (asB (op2 neO (callK 0 2 [1, 0] f_mast_plane argN (argC (ret (.int 0)) (argC (getv 1) argN))) (callM f_mast_plane (argC (getv 1) (argC (ret (.int 0)) argN)))))) (retS (ret (.bl false))) (ret .nx)) k)))))
theorem mapped {α : Type} (enc : α → D) (P : α → Prop) : ∀ {ys : List D}, (∀ y ∈ ys, ∃ p, y = enc p ∧ P p) → ∃ ps : List α, ys = ps.map enc ∧ ∀ p ∈ ps, P p
  | [], _ => ⟨[], rfl, by simp⟩
  | y :: ys, h => by
    obtain ⟨p, rfl, hp⟩ := h y List.mem_cons_self
    obtain ⟨ps, rfl, hps⟩ := mapped enc P fun z hz => h z (List.mem_cons_of_mem _ hz)
    exact ⟨p :: ps, rfl, fun z hz => by
      rcases List.mem_cons.mp hz with e | e
      · rw [e]; exact hp
      · exact hps z e⟩
structure VX (ms : List Ma) : Prop extends VM ms where
  xy : ∀ m ∈ ms, Bd 5 m.x ∧ Bd 5 m.y
theorem rng_lit {j : Int} (h0 : 0 ≤ j) (h1 : j < 2 ^ 60) : rng1O [.int j] = some (rangeD 0 j) := by
  show (if -(2 ^ 62) ≤ j ∧ j < 2 ^ 62 then some (rangeD 0 j) else none) = _
  rw [if_pos ⟨by omega, by omega⟩]
theorem k_places (n : Nat) (A B C E : D) (st : List (List D)) (h : PotI n st) : ∃ (ps : List (Rat × Rat)) (st' : List (List D)), c3_law_right ⟨[.val (.ref n), .val A, .val B, .val C, .val E, .un, .un, .un, .un, .un, .un, .un, .un], st⟩ = .ok (ps.map pd) ⟨[.val (.ref n), .val A, .val B, .val C, .val E, .un, .un, .un, .un, .un, .un, .un, .un], st'⟩ ∧ ps.length = 3 ∧ (∀ p ∈ ps, BP 5 p) ∧ Kp n st st' := by
  have hr : rng1O [.int 3] = some (rangeD 0 3) := rng_lit (by decide) (by decide)
  obtain ⟨ys, st', h1, h2, h3, h4⟩ := lcM_inv (vs := [8]) (src := overA rng1O (argC (ret (.int 3)) argN)) (t := setv 8) (c := yesM) (f := ce3_law_right) (fun z => Kp n st z) (fun y => ∃ p, y = pd p ∧ BP 5 p)
    (s := ⟨[.val (.ref n), .val A, .val B, .val C, .val E, .un, .un, .un, .un, .un, .un, .un, .un], st⟩) (s1 := ⟨[.val (.ref n), .val A, .val B, .val C, .val E, .un, .un, .un, .un, .un, .un, .un, .un], st⟩) (xs := rangeD 0 3) (by simp [overA, hr, fnM, bnd, Mp.ret, lift, stk, seqS, retS, asgS, dropS, ifS, setv, getv, peekv, op1, op2, ap1, ap2, asB, chain2, testM, truM, truO, andV, orV, notV, ifV, andB, orB, notB, argN, argC, mkTup, mkLst, frzd, callM, onMs, subsO, lenO, absO, isiO, D.tg, isTy, tgtT, tgtC, tgtN, par2, par3, forS, seqI, srcD, catO, addO, subO, repO, mulO, fdivO, modO, negO, ltO, leO, gtO, geO, cmpI, gcdO, maxO, minO, intO, tupleO, listO]) (by simp [rangeD]) (by simp) ⟨h, rfl⟩ (by
      intro x hx z kz
      obtain ⟨q1, s1, e1, b1, k1⟩ := k_draw_ratio n ⟨[], z⟩ kz.pot
      obtain ⟨q2, s2, e2, b2, k2⟩ := k_draw_ratio n ⟨[], s1⟩ k1.pot
      refine ⟨pd (q1, q2), [.val (.ref n), .val A, .val B, .val C, .val E, .un, .un, .un, .val x, .un, .un, .un, .un], s2, ?_, by simp [wipeE], (kz.trans k1).trans k2, (q1, q2), rfl, b1, b2⟩
      have e : pd (q1, q2) = .tup [rd q1, rd q2] := rfl
      rw [e]
      simp [lcT, wipeE, yesM, ce3_law_right, e1, e2, fnM, bnd, Mp.ret, lift, stk, seqS, retS, asgS, dropS, ifS, setv, getv, peekv, op1, op2, ap1, ap2, asB, chain2, testM, truM, truO, andV, orV, notV, ifV, andB, orB, notB, argN, argC, mkTup, mkLst, frzd, callM, onMs, subsO, lenO, absO, isiO, D.tg, isTy, tgtT, tgtC, tgtN, par2, par3, forS, seqI, srcD, catO, addO, subO, repO, mulO, fdivO, modO, negO, ltO, leO, gtO, geO, cmpI, gcdO, maxO, minO, intO, tupleO, listO])
  obtain ⟨ps, rfl, hps⟩ := mapped pd (BP 5) h4
  refine ⟨ps, st', ?_, ?_, hps, h2⟩
  · unfold c3_law_right
    rw [h1]
    simp [restE, wipeE, keepVal]
  · rw [List.length_map] at h3
    rw [h3]
    simp [rangeD]
theorem k_all_places {ms : List Ma} (v : VM ms) (n : Nat) (B C E : D) (ps : List (Rat × Rat)) (hp : ∀ p ∈ ps, BP 20 p) (hl : ps.length ≤ 1000) (st : List (List D)) : c2_law_right ⟨[.val (.ref n), .val (.tup (ms.map md)), .val B, .val C, .val E, .own (ps.map pd), .un, .un, .un, .un, .un, .un, .un], st⟩ = .ok (ps.map fun _ => .bl true) ⟨[.val (.ref n), .val (.tup (ms.map md)), .val B, .val C, .val E, .val (.lst (ps.map pd)), .un, .un, .un, .un, .un, .un, .un], st⟩ := by
  have hpl : ∀ p ∈ ps, ∀ s, f_law_place_right [.tup (ms.map md), pd p] s = .ok (.bl true) s := fun p hm s => e_law_place_right v (hp p hm) s
  generalize ms.map md = M at *
  have := lcM_pure (vs := [11]) (src := seqI (getv 5)) (t := setv 11) (c := yesM) (f := ce2_law_right) (fun _ => some (.bl true))
    (s := ⟨[.val (.ref n), .val (.tup M), .val B, .val C, .val E, .own (ps.map pd), .un, .un, .un, .un, .un, .un, .un], st⟩) (s1 := ⟨[.val (.ref n), .val (.tup M), .val B, .val C, .val E, .val (.lst (ps.map pd)), .un, .un, .un, .un, .un, .un, .un], st⟩) (xs := ps.map pd) (by simp [fnM, bnd, Mp.ret, lift, stk, seqS, retS, asgS, dropS, ifS, setv, getv, peekv, op1, op2, ap1, ap2, asB, chain2, testM, truM, truO, andV, orV, notV, ifV, andB, orB, notB, argN, argC, mkTup, mkLst, frzd, callM, onMs, subsO, lenO, absO, isiO, D.tg, isTy, tgtT, tgtC, tgtN, par2, par3, forS, seqI, srcD, catO, addO, subO, repO, mulO, fdivO, modO, negO, ltO, leO, gtO, geO, cmpI, gcdO, maxO, minO, intO, tupleO, listO]) (by rw [List.length_map]; omega) (by simp) (by
      intro x hx
      obtain ⟨p, hp, rfl⟩ := List.mem_map.mp hx
      have hpp := hpl p hp
      refine ⟨[.val (.ref n), .val (.tup M), .val B, .val C, .val E, .val (.lst (ps.map pd)), .un, .un, .un, .un, .un, .val (pd p), .un], ?_, by simp [wipeE]⟩
      generalize ps.map pd = PS at *
      generalize pd p = P at *
      simp [lcT, wipeE, yesM, ce2_law_right, hpp, fnM, bnd, Mp.ret, lift, stk, seqS, retS, asgS, dropS, ifS, setv, getv, peekv, op1, op2, ap1, ap2, asB, chain2, testM, truM, truO, andV, orV, notV, ifV, andB, orB, notB, argN, argC, mkTup, mkLst, frzd, callM, onMs, subsO, lenO, absO, isiO, D.tg, isTy, tgtT, tgtC, tgtN, par2, par3, forS, seqI, srcD, catO, addO, subO, repO, mulO, fdivO, modO, negO, ltO, leO, gtO, geO, cmpI, gcdO, maxO, minO, intO, tupleO, listO])
  unfold c2_law_right
  rw [this, filterMap_some_map, List.map_map]
  simp [restE, wipeE, keepVal, Function.comp_def]
theorem e_ph1 {ms : List Ma} (v : VX ms) (n : Nat) (st : List (List D)) (h : PotI n st) : ∃ (t : PySem.Str) (d3 d4 d5 : D) (st' : List (List D)), Kp n st st' ∧ (∀ s, reprO (.tup (ms.map md)) s = some (.str t)) ∧
    ∀ k : M Fl, ph1 k ⟨[.val (.ref n), .val (.tup (ms.map md)), .un, .un, .un, .un, .un, .un, .un, .un, .un, .un, .un], st⟩ = k ⟨[.val (.ref n), .val (.tup (ms.map md)), .val (.str t), .val d3, .val d4, .val d5, .un, .un, .un, .un, .un, .un, .un], st'⟩ := by
  obtain ⟨t, ht⟩ := (Rp_ms (ms := ms) fun m hm => (v.bd m hm).mono (by decide)).repr (by have := v.len; omega) (by decide)
  have hM0 : ms.map md ≠ [] := by simpa using v.ne
  have hMl : (ms.map md).length < 1000 := by rw [List.length_map]; have := v.len; omega
  obtain ⟨d1, s1, e1, hd1, k1⟩ := k_pick n (ms.map md) ⟨[], st⟩ h hM0 hMl _ (.inr rfl)
  obtain ⟨d2, s2, e2, hd2, k2⟩ := k_pick n (ms.map md) ⟨[], s1⟩ k1.pot hM0 hMl _ (.inr rfl)
  obtain ⟨a, ha, rfl⟩ := List.mem_map.mp hd1
  obtain ⟨b, hb, rfl⟩ := List.mem_map.mp hd2
  obtain ⟨ps, s3, e3, hl, hps, k3⟩ := k_places n (.tup (ms.map md)) (.str t) (md a) (md b) s2 k2.pot
  have ba := v.xy a ha
  have bb := v.xy b hb
  have bx := ba.1.add bb.1 (k := 11) (by decide)
  have by' := ba.2.add bb.2 (k := 11) (by decide)
  have bmx := bx.mul rd_half (k := 16) (by decide)
  have bmy := by'.mul rd_half (k := 16) (by decide)
  have f1 := fun s => e_law_plus a.x b.x s ba.1 bb.1 (by decide)
  have f2 := fun s => e_law_plus a.y b.y s ba.2 bb.2 (by decide)
  have f3 := fun s => e_law_times _ _ s bx (rd_half.mono (by decide)) (by decide)
  have f4 := fun s => e_law_times _ _ s by' (rd_half.mono (by decide)) (by decide)
  have hall := k_all_places v.toVM n (.str t) (md a) (md b) (ps ++ [((a.x + b.x) * Rat.divInt 1 2, (a.y + b.y) * Rat.divInt 1 2)] ++ [(a.x, a.y)]) (by
    intro p hp
    rcases List.mem_append.mp hp with hp | hp
    · rcases List.mem_append.mp hp with hp | hp
      · exact ⟨(hps p hp).1.mono (by decide), (hps p hp).2.mono (by decide)⟩
      · rw [List.mem_singleton.mp hp]
        exact ⟨bmx.mono (by decide), bmy.mono (by decide)⟩
    · rw [List.mem_singleton.mp hp]
      exact ⟨ba.1.mono (by decide), ba.2.mono (by decide)⟩) (by simp [hl]) s3
  have hal := fun s => all_map (fun _ : Rat × Rat => true) (ps ++ [((a.x + b.x) * Rat.divInt 1 2, (a.y + b.y) * Rat.divInt 1 2)] ++ [(a.x, a.y)]) s
  have et : (ps ++ [((a.x + b.x) * Rat.divInt 1 2, (a.y + b.y) * Rat.divInt 1 2)] ++ [(a.x, a.y)]).all (fun _ => true) = true := by simp
  rw [et] at hal
  obtain ⟨m0, hm0⟩ : ∃ m0, ms[0]? = some m0 := ⟨ms[0]'(List.length_pos_iff.mpr v.ne), List.getElem?_eq_getElem _⟩
  have hpl : ∀ s, f_mast_plane [.tup (ms.map md), .int 0] s = .ok (md ⟨2 * m0.x, 2 * m0.y, -(m0.x * m0.x + m0.y * m0.y + m0.h)⟩) s := fun s => e_mast_plane v.toVM hm0 s
  have hne := fun s => ne_md ⟨2 * m0.x, 2 * m0.y, -(m0.x * m0.x + m0.y * m0.y + m0.h)⟩ s
  generalize md ⟨2 * m0.x, 2 * m0.y, -(m0.x * m0.x + m0.y * m0.y + m0.h)⟩ = PL at *
  rw [List.map_append, List.map_append, List.map_cons, List.map_nil, List.map_cons, List.map_nil] at hall
  have hlp : (ps.map pd).length = 3 := by rw [List.length_map]; exact hl
  generalize ((ps ++ [((a.x + b.x) * Rat.divInt 1 2, (a.y + b.y) * Rat.divInt 1 2)] ++ [(a.x, a.y)]).map fun _ => D.bl true) = BS at *
  refine ⟨t, md a, md b, .lst (ps.map pd ++ [pd ((a.x + b.x) * Rat.divInt 1 2, (a.y + b.y) * Rat.divInt 1 2)] ++ [pd (a.x, a.y)]), s3, (k1.trans k2).trans k3, ht, fun k => ?_⟩
  have ema : md a = .tup [rd a.x, rd a.y, rd a.h] := rfl
  have emb : md b = .tup [rd b.x, rd b.y, rd b.h] := rfl
  have ep : ∀ p q : Rat, pd (p, q) = .tup [rd p, rd q] := fun _ _ => rfl
  simp only [ep] at hall ⊢
  rw [ema] at e1 e3 hall ⊢
  rw [emb] at e2 e3 hall ⊢
  generalize ms.map md = M at *
  generalize ps.map pd = PS at *
  generalize (a.x + b.x) * Rat.divInt 1 2 = X at *
  generalize (a.y + b.y) * Rat.divInt 1 2 = Y at *
  simp only [List.append_assoc, List.singleton_append] at hall ⊢
  simp [ph1, ht, e1, e2, e3, ownS, setown, appS, ownOf, hlp, at0, at1, rd_half', f1, f2, f3, f4, hall, hal, hpl, hne, callK, reord, fnM, bnd, Mp.ret, lift, stk, seqS, retS, asgS, dropS, ifS, setv, getv, peekv, op1, op2, ap1, ap2, asB, chain2, testM, truM, truO, andV, orV, notV, ifV, andB, orB, notB, argN, argC, mkTup, mkLst, frzd, callM, onMs, subsO, lenO, absO, isiO, D.tg, isTy, tgtT, tgtC, tgtN, par2, par3, forS, seqI, srcD, catO, addO, subO, repO, mulO, fdivO, modO, negO, ltO, leO, gtO, geO, cmpI, gcdO, maxO, minO, intO, tupleO, listO]
end K61

set_option linter.all false
set_option maxRecDepth 100000
namespace K61
open Mp
noncomputable def ph2 (k : M Fl) : M Fl :=
    (seqS (asgS (op1 tupleO (frzd c1_law_right)) (setv 6))
    (seqS (ownS (bnd (argC (getv 1) (argC (op1 listO (peekv 1)) (argC (op2 repO (sliceM (peekv 1) partN (partS (ret (.int 1)))) (ret (.int 2))) (argC (bnd argN mkTup) (argC (ret .non) (argC (ret (.int 0)) (argC (ret (.str "m")) (argC (ret .dct) (argC (op2 subsO (peekv 1) (ret (.int 0))) (argC (getv 6) (argC (sliceM (peekv 6) (partS (ret (.int 1))) partN) (argC (op2 catO (peekv 1) (bnd (argC (bnd (argC (ret (.int 0)) (argC (ret (.int 0)) (argC (ret (.int 0)) argN))) mkTup) argN) mkTup)) argN)))))))))))) mkLst) 7) k))
def lg (i : D) : D := .tup [.tup [i, .int 1], .tup [.int 0, .int 1], .tup [.int 0, .int 1]]
theorem k_long (a b c d e f : Sl) (st : List (List D)) : c1_law_right ⟨[a, b, c, d, e, f, .un, .un, .un, .un, .un, .un, .un], st⟩ = .ok ((rangeD 0 61).map lg) ⟨[a, b, c, d, e, f, .un, .un, .un, .un, .un, .un, .un], st⟩ := by
  have hr : rng1O [.int 61] = some (rangeD 0 61) := rng_lit (by decide) (by decide)
  have := lcM_pure (vs := [12]) (src := overA rng1O (argC (ret (.int 61)) argN)) (t := setv 12) (c := yesM) (f := ce1_law_right) (fun i => some (lg i))
    (s := ⟨[a, b, c, d, e, f, .un, .un, .un, .un, .un, .un, .un], st⟩) (s1 := ⟨[a, b, c, d, e, f, .un, .un, .un, .un, .un, .un, .un], st⟩) (xs := rangeD 0 61) (by simp [overA, hr, fnM, bnd, Mp.ret, lift, stk, seqS, retS, asgS, dropS, ifS, setv, getv, peekv, op1, op2, ap1, ap2, asB, chain2, testM, truM, truO, andV, orV, notV, ifV, andB, orB, notB, argN, argC, mkTup, mkLst, frzd, callM, onMs, subsO, lenO, absO, isiO, D.tg, isTy, tgtT, tgtC, tgtN, par2, par3, forS, seqI, srcD, catO, addO, subO, repO, mulO, fdivO, modO, negO, ltO, leO, gtO, geO, cmpI, gcdO, maxO, minO, intO, tupleO, listO]) (by simp [rangeD]) (by simp) (by
      intro x hx
      refine ⟨[a, b, c, d, e, f, .un, .un, .un, .un, .un, .un, .val x], ?_, by simp [wipeE]⟩
      simp [lcT, wipeE, yesM, ce1_law_right, lg, fnM, bnd, Mp.ret, lift, stk, seqS, retS, asgS, dropS, ifS, setv, getv, peekv, op1, op2, ap1, ap2, asB, chain2, testM, truM, truO, andV, orV, notV, ifV, andB, orB, notB, argN, argC, mkTup, mkLst, frzd, callM, onMs, subsO, lenO, absO, isiO, D.tg, isTy, tgtT, tgtC, tgtN, par2, par3, forS, seqI, srcD, catO, addO, subO, repO, mulO, fdivO, modO, negO, ltO, leO, gtO, geO, cmpI, gcdO, maxO, minO, intO, tupleO, listO])
  unfold c1_law_right
  rw [this, filterMap_some_map]
  simp [restE, wipeE, keepVal]
theorem gd_long : ∀ x ∈ (rangeD 0 61).map lg, gd 2 x = true := by
  intro x hx
  obtain ⟨y, hy, rfl⟩ := List.mem_map.mp hx
  unfold rangeD at hy
  obtain ⟨i, hi, rfl⟩ := List.mem_map.mp hy
  have hi := List.mem_range.mp hi
  have h1 : gd 0 (.int (0 + (i : Nat))) = true := gd0_int (by omega) 0
  have h2 : gd 0 (.int 1) = true := gd0_int (by decide) 0
  have h3 : gd 0 (.int 0) = true := gd0_int (by decide) 0
  have h4 : gd 1 (.tup [.int 0, .int 1]) = true := gd_mk (by simp) (by simp [h2, h3])
  have h5 : gd 1 (.tup [.int (0 + (i : Nat)), .int 1]) = true := gd_mk (by simp) (by
    intro z hz
    rcases (by simpa using hz : z = .int (i : Nat) ∨ z = .int 1) with rfl | rfl
    · rw [Int.zero_add] at h1; exact h1
    · exact h2)
  refine gd_mk (by simp) ?_
  intro z hz
  rcases (by simpa using hz : z = .tup [.int (i : Nat), .int 1] ∨ z = .tup [.int 0, .int 1]) with rfl | rfl
  · rw [Int.zero_add] at h5; exact h5
  · exact h4
theorem e_ph2 {ms : List Ma} (v : VX ms) (a c d e f : Sl) (st : List (List D)) : ∃ (x : D) (vs : List D), (∀ y ∈ vs, gd 3 y = true) ∧ vs.length = 12 ∧
    ∀ k : M Fl, ph2 k ⟨[a, .val (.tup (ms.map md)), c, d, e, f, .un, .un, .un, .un, .un, .un, .un], st⟩ = k ⟨[a, .val (.tup (ms.map md)), c, d, e, f, .val x, .own vs, .un, .un, .un, .un, .un], st⟩ := by
  have hc := k_long a (.val (.tup (ms.map md))) c d e f st
  have hg := gd_long
  have hlen : ((rangeD 0 61).map lg).length = 61 := by simp [rangeD]
  generalize (rangeD 0 61).map lg = L at *
  have hlm : (ms.map md).length ≤ 60 := by rw [List.length_map]; exact v.len
  have hgm : ∀ x ∈ ms.map md, gd 2 x = true := fun x hx => by
    obtain ⟨m, hm, rfl⟩ := List.mem_map.mp hx
    exact gd_md ((v.bd m hm).mono (by decide)) 0
  have hgm3 : ∀ x ∈ ms.map md, gd 3 x = true := fun x hx => by
    obtain ⟨m, hm, rfl⟩ := List.mem_map.mp hx
    exact gd_md ((v.bd m hm).mono (by decide)) 1
  have hM0 : ms.map md ≠ [] := by simpa using v.ne
  generalize ms.map md = M at *
  obtain ⟨m0, M', rfl⟩ : ∃ m0 M', M = m0 :: M' := by
    cases M with
    | nil => exact absurd rfl hM0
    | cons a b => exact ⟨a, b, rfl⟩
  have t1 := cut_take (m0 :: M') 1
  have t2 := cut_drop L 1
  have t1 : cutD (m0 :: M') none (some 1) = [m0] := t1
  have t2 : cutD L (some 1) none = L.drop 1 := t2
  have g3 : gd 3 (.tup (m0 :: M')) = true := gd_mk (by omega) hgm
  have g0 : gd 2 m0 = true := hgm m0 List.mem_cons_self
  have g0' : gd 3 m0 = true := hgm3 m0 List.mem_cons_self
  have i0 : gd 1 (.int 0) = true := gd0_int (by decide) 1
  have hl' : (m0 :: M').length + 1 ≤ 100000 := by omega
  have hl' : M'.length + 1 + 1 ≤ 100000 := hl'
  refine ⟨.tup L, [.tup (m0 :: M'), .lst (m0 :: M'), .tup [m0, m0], .tup [], .non, .int 0, .str "m", .dct, m0, .tup L, .tup (L.drop 1), .tup (m0 :: M' ++ [.tup [.int 0, .int 0, .int 0]])], ?_, rfl, fun k => ?_⟩
  · intro y hy
    rcases (by simpa using hy : y = .tup (m0 :: M') ∨ y = .lst (m0 :: M') ∨ y = .tup [m0, m0] ∨ y = .tup [] ∨ y = .non ∨ y = .int 0 ∨ y = .str "m" ∨ y = .dct ∨ y = m0 ∨ y = .tup L ∨ y = .tup (L.drop 1) ∨ y = .tup (m0 :: (M' ++ [.tup [.int 0, .int 0, .int 0]]))) with rfl | rfl | rfl | rfl | rfl | rfl | rfl | rfl | rfl | rfl | rfl | rfl
    · exact g3
    · rfl
    · exact gd_mk (by simp) (by simp [g0])
    · rfl
    · rfl
    · exact gd0_int (by decide) 3
    · rfl
    · rfl
    · exact g0'
    · exact gd_mk (by omega) hg
    · exact gd_mk (by rw [List.length_drop]; omega) fun x hx => hg x (List.mem_of_mem_drop hx)
    · refine gd_mk (by simp only [List.length_cons, List.length_append, List.length_nil] at hlm ⊢; omega) fun x hx => ?_
      rcases (by simpa using hx : x = m0 ∨ x ∈ M' ∨ x = .tup [.int 0, .int 0, .int 0]) with rfl | h | rfl
      · exact g0
      · exact hgm x (List.mem_cons_of_mem _ h)
      · exact gd_mk (by simp) (by simp [i0])
  · simp [ph2, hc, ownS, setown, sliceM, partN, partS, slO, t1, t2, at0, hl', fnM, bnd, Mp.ret, lift, stk, seqS, retS, asgS, dropS, ifS, setv, getv, peekv, op1, op2, ap1, ap2, asB, chain2, testM, truM, truO, andV, orV, notV, ifV, andB, orB, notB, argN, argC, mkTup, mkLst, frzd, callM, onMs, subsO, lenO, absO, isiO, D.tg, isTy, tgtT, tgtC, tgtN, par2, par3, forS, seqI, srcD, catO, addO, subO, repO, mulO, fdivO, modO, negO, ltO, leO, gtO, geO, cmpI, gcdO, maxO, minO, intO, tupleO, listO]
noncomputable def ph3 : M Fl :=
    (seqS l2_law_right
    (seqS l1_law_right
    (retS (op2 eqO (op1 reprO (peekv 1)) (peekv 2)))))
theorem k_bents {ms : List Ma} (v : VX ms) (n : Nat) (c d e f g : Sl) : ∀ (xs : List D) (vs : List D) (st : List (List D)) (e8 : Sl), PotI n st → (∀ y ∈ vs, gd 3 y = true) → vs.length + xs.length ≤ 1000 →
    ∃ (vs' : List D) (st' : List (List D)) (e8' : Sl), forL (setv 8) lb2_law_right xs ⟨[.val (.ref n), .val (.tup (ms.map md)), c, d, e, f, g, .own vs, e8, .un, .un, .un, .un], st⟩ = .ok .nx ⟨[.val (.ref n), .val (.tup (ms.map md)), c, d, e, f, g, .own vs', e8', .un, .un, .un, .un], st'⟩ ∧ (∀ y ∈ vs', gd 3 y = true) ∧ Kp n st st' ∧ vs'.length ≤ 1000
  | [], vs, st, e8, h, hv, hl => ⟨vs, st, e8, rfl, hv, ⟨h, rfl⟩, by simpa using hl⟩
  | x :: xs, vs, st, e8, h, hv, hl => by
    obtain ⟨y, s1, e1, g1, k1⟩ := bent_ms 36 v.ne v.len v.bd n ⟨[], st⟩ h
    rw [List.length_cons] at hl
    obtain ⟨vs', st', e8', h1, h2, h3, h4⟩ := k_bents v n c d e f g xs (vs ++ [y]) s1 (.val x) k1.pot (by
      intro z hz
      rcases List.mem_append.mp hz with hz | hz
      · exact hv z hz
      · rw [List.mem_singleton.mp hz]; exact g1) (by rw [List.length_append]; simp; omega)
    refine ⟨vs', st', e8', ?_, h2, k1.trans h3, h4⟩
    have hlt : vs.length < 100000 := by omega
    have e1 : f_law_bent 40 [.ref n, .tup (ms.map md)] ⟨[], st⟩ = .ok y ⟨[], s1⟩ := e1
    generalize ms.map md = M at *
    refine (forL_step (s1 := ⟨[.val (.ref n), .val (.tup M), c, d, e, f, g, .own vs, .val x, .un, .un, .un, .un], st⟩) ?_ ?_).trans h1
    · simp [fnM, bnd, Mp.ret, lift, stk, seqS, retS, asgS, dropS, ifS, setv, getv, peekv, op1, op2, ap1, ap2, asB, chain2, testM, truM, truO, andV, orV, notV, ifV, andB, orB, notB, argN, argC, mkTup, mkLst, frzd, callM, onMs, subsO, lenO, absO, isiO, D.tg, isTy, tgtT, tgtC, tgtN, par2, par3, forS, seqI, srcD, catO, addO, subO, repO, mulO, fdivO, modO, negO, ltO, leO, gtO, geO, cmpI, gcdO, maxO, minO, intO, tupleO, listO]
    · simp [lb2_law_right, appS, ownOf, e1, hlt, fnM, bnd, Mp.ret, lift, stk, seqS, retS, asgS, dropS, ifS, setv, getv, peekv, op1, op2, ap1, ap2, asB, chain2, testM, truM, truO, andV, orV, notV, ifV, andB, orB, notB, argN, argC, mkTup, mkLst, frzd, callM, onMs, subsO, lenO, absO, isiO, D.tg, isTy, tgtT, tgtC, tgtN, par2, par3, forS, seqI, srcD, catO, addO, subO, repO, mulO, fdivO, modO, negO, ltO, leO, gtO, geO, cmpI, gcdO, maxO, minO, intO, tupleO, listO]
theorem k_values (a b c d e f g h i : Sl) (st : List (List D)) : ∀ (xs : List D) (e9 e10 : Sl), (∀ y ∈ xs, gd 3 y = true) →
    ∃ (e9' e10' : Sl), forL (setv 9) lb1_law_right xs ⟨[a, b, c, d, e, f, g, h, i, e9, e10, .un, .un], st⟩ = .ok .nx ⟨[a, b, c, d, e, f, g, h, i, e9', e10', .un, .un], st⟩
  | [], e9, e10, _ => ⟨e9, e10, rfl⟩
  | x :: xs, e9, e10, hx => by
    obtain ⟨bb, h1, h2⟩ := e_are x (hx x List.mem_cons_self)
    have h3 : ∀ s, f_are_masts [x] s = .ok (.bl bb) s := fun s => by simp [f_are_masts, m_are_masts, h1, fnM, bnd, Mp.ret, lift, stk, seqS, retS, asgS, dropS, ifS, setv, getv, peekv, op1, op2, ap1, ap2, asB, chain2, testM, truM, truO, andV, orV, notV, ifV, andB, orB, notB, argN, argC, mkTup, mkLst, frzd, callM, onMs, subsO, lenO, absO, isiO, D.tg, isTy, tgtT, tgtC, tgtN, par2, par3, forS, seqI, srcD, catO, addO, subO, repO, mulO, fdivO, modO, negO, ltO, leO, gtO, geO, cmpI, gcdO, maxO, minO, intO, tupleO, listO]
    obtain ⟨t, ht⟩ := (Rp_two (Rp.bl bb)).repr (by decide) (by decide)
    have hns := fun s => ne_str t s
    obtain ⟨f9, f10, hl⟩ := k_values a b c d e f g h i st xs (.val x) (.val (.bl bb)) fun y hy => hx y (List.mem_cons_of_mem _ hy)
    refine ⟨f9, f10, ?_⟩
    refine (forL_step (s1 := ⟨[a, b, c, d, e, f, g, h, i, .val x, e10, .un, .un], st⟩) ?_ ?_).trans hl
    · simp [fnM, bnd, Mp.ret, lift, stk, seqS, retS, asgS, dropS, ifS, setv, getv, peekv, op1, op2, ap1, ap2, asB, chain2, testM, truM, truO, andV, orV, notV, ifV, andB, orB, notB, argN, argC, mkTup, mkLst, frzd, callM, onMs, subsO, lenO, absO, isiO, D.tg, isTy, tgtT, tgtC, tgtN, par2, par3, forS, seqI, srcD, catO, addO, subO, repO, mulO, fdivO, modO, negO, ltO, leO, gtO, geO, cmpI, gcdO, maxO, minO, intO, tupleO, listO]
    · simp [lb1_law_right, h2, h3, ht, hns, callK, reord, fnM, bnd, Mp.ret, lift, stk, seqS, retS, asgS, dropS, ifS, setv, getv, peekv, op1, op2, ap1, ap2, asB, chain2, testM, truM, truO, andV, orV, notV, ifV, andB, orB, notB, argN, argC, mkTup, mkLst, frzd, callM, onMs, subsO, lenO, absO, isiO, D.tg, isTy, tgtT, tgtC, tgtN, par2, par3, forS, seqI, srcD, catO, addO, subO, repO, mulO, fdivO, modO, negO, ltO, leO, gtO, geO, cmpI, gcdO, maxO, minO, intO, tupleO, listO]
theorem e_ph3 {ms : List Ma} (v : VX ms) (n : Nat) (t : PySem.Str) (ht : ∀ s, reprO (.tup (ms.map md)) s = some (.str t)) (d e f g : Sl) (vs : List D) (hv : ∀ y ∈ vs, gd 3 y = true) (hl : vs.length = 12) (st : List (List D)) (hp : PotI n st) :
    ∃ (e' : List Sl) (st' : List (List D)), ph3 ⟨[.val (.ref n), .val (.tup (ms.map md)), .val (.str t), d, e, f, g, .own vs, .un, .un, .un, .un, .un], st⟩ = .ok (.ret (.bl true)) ⟨e', st'⟩ ∧ Kp n st st' := by
  have hr : rng1O [.int 8] = some (rangeD 0 8) := rng_lit (by decide) (by decide)
  obtain ⟨ws, s1, e8, h1, hw, k1, hwl⟩ := k_bents v n (.val (.str t)) d e f g (rangeD 0 8) vs st .un hp hv (by simp [rangeD, hl])
  obtain ⟨f9, f10, h2⟩ := k_values (.val (.ref n)) (.val (.tup (ms.map md))) (.val (.str t)) d e f g (.val (.lst ws)) e8 s1 ws .un .un hw
  have heq := fun s => eq_str t s
  generalize ms.map md = M at *
  refine ⟨[.val (.ref n), .val (.tup M), .val (.str t), d, e, f, g, .val (.lst ws), e8, f9, f10, .un, .un], s1, ?_, k1⟩
  simp [ph3, l1_law_right, l2_law_right, overA, hr, h1, h2, ht, heq, fnM, bnd, Mp.ret, lift, stk, seqS, retS, asgS, dropS, ifS, setv, getv, peekv, op1, op2, ap1, ap2, asB, chain2, testM, truM, truO, andV, orV, notV, ifV, andB, orB, notB, argN, argC, mkTup, mkLst, frzd, callM, onMs, subsO, lenO, absO, isiO, D.tg, isTy, tgtT, tgtC, tgtN, par2, par3, forS, seqI, srcD, catO, addO, subO, repO, mulO, fdivO, modO, negO, ltO, leO, gtO, geO, cmpI, gcdO, maxO, minO, intO, tupleO, listO]
end K61

set_option linter.all false
set_option maxRecDepth 100000
namespace K61
open Mp
theorem half_not {a b : Rat} (ha : a.den = 1) (hb : b.den = 1) (h : a + Rat.divInt 1 2 = b) : False := by
  have h1 : a = (a.num : Rat) := Rat.ext (by simp) (by simp [ha])
  have h2 : b = (b.num : Rat) := Rat.ext (by simp) (by simp [hb])
  have h3 : Rat.divInt 1 2 * 2 = 1 := by decide +kernel
  have h4 : (a.num : Rat) * 2 + 1 = (b.num : Rat) * 2 := by rw [← h1, ← h2]; grind
  have h5 : a.num * 2 + 1 = b.num * 2 := by exact_mod_cast h4
  omega
theorem VX_of {ms : List Ma} (h0 : ms ≠ []) (v : VF 8 ms) : VX ms where
  ne := h0
  len := by have := v.len; omega
  nd := v.nd
  bd := fun m hm => (v.bd m hm).1.mono (by decide)
  xy := fun m hm => ⟨(v.bd m hm).1.1, (v.bd m hm).1.2.1⟩
theorem VX_add {ms : List Ma} (v : VF 8 ms) {m : Ma} (hm : m ∈ ms) : VX (ms ++ [⟨m.x, m.y, m.h + Rat.divInt 1 2⟩]) where
  ne := by simp
  len := by rw [List.length_append]; have := v.len; simp; omega
  nd := by
    rw [List.nodup_append]
    refine ⟨v.nd, by simp, fun a ha b hb e => ?_⟩
    rw [List.mem_singleton.mp hb] at e
    subst e
    exact half_not (v.bd m hm).2 (v.bd _ ha).2 rfl
  bd := fun z hz => by
    rcases List.mem_append.mp hz with hz | hz
    · exact (v.bd z hz).1.mono (by decide)
    · rw [List.mem_singleton.mp hz]
      have b := (v.bd m hm).1
      exact ⟨b.1.mono (by decide), b.2.1.mono (by decide), (b.2.2.add rd_half (k := 11) (by decide)).mono (by decide)⟩
  xy := fun z hz => by
    rcases List.mem_append.mp hz with hz | hz
    · exact ⟨(v.bd z hz).1.1, (v.bd z hz).1.2.1⟩
    · rw [List.mem_singleton.mp hz]
      have b := (v.bd m hm).1
      exact ⟨b.1, b.2.1⟩
theorem e_law_right (n : Nat) (s : S) (h : PotI n s.ms) : ∃ st', f_law_right [.ref n] s = .ok (.bl true) ⟨s.env, st'⟩ := by
  obtain ⟨ms, s1, e1, h0, v, k1⟩ := k_masts n ⟨[], s.ms⟩ h
  obtain ⟨k, s2, e2, a0, a1, k2⟩ := k_draw n 3 ⟨[], s1⟩ k1.pot (by decide) (by decide)
  have hm : m_law_right = seqS (asgS (callM f_law_masts (argC (getv 0) (argC (ret (.int 8)) (argC (ret (.int 20)) argN)))) (setv 1))
    (seqS (ifS (asB (op2 eqO (callM f_law_draw (argC (getv 0) (argC (ret (.int 3)) argN))) (ret (.int 0)))) (asgS (op2 catO (peekv 1) (bnd (argC (bnd (argC (op2 subsO (op2 subsO (peekv 1) (ret (.int 0))) (ret (.int 0))) (argC (op2 subsO (op2 subsO (peekv 1) (ret (.int 0))) (ret (.int 1))) (argC (callM f_law_plus (argC (op2 subsO (op2 subsO (peekv 1) (ret (.int 0))) (ret (.int 2))) (argC (bnd (argC (ret (.int 1)) (argC (ret (.int 2)) argN)) mkTup) argN))) argN))) mkTup) argN) mkTup)) (setv 1)) (ret .nx)) (ph1 (ph2 ph3))) := rfl
  obtain ⟨ns, vx, hen⟩ : ∃ ns, VX ns ∧ m_law_right ⟨[.val (.ref n), .un, .un, .un, .un, .un, .un, .un, .un, .un, .un, .un, .un], s.ms⟩ = ph1 (ph2 ph3) ⟨[.val (.ref n), .val (.tup (ns.map md)), .un, .un, .un, .un, .un, .un, .un, .un, .un, .un, .un], s2⟩ := by
    rw [hm]
    generalize ph1 (ph2 ph3) = R
    by_cases c : k = 0
    · obtain ⟨m, ms', rfl⟩ : ∃ m ms', ms = m :: ms' := by
        cases ms with
        | nil => exact absurd rfl h0
        | cons a b => exact ⟨a, b, rfl⟩
      refine ⟨_, VX_add v List.mem_cons_self, ?_⟩
      have b := (v.bd m List.mem_cons_self).1
      have f1 := fun s => e_law_plus m.h (Rat.divInt 1 2) s b.2.2 rd_half (by decide)
      have emd : md m = .tup [rd m.x, rd m.y, rd m.h] := rfl
      have emd2 : md ⟨m.x, m.y, m.h + Rat.divInt 1 2⟩ = .tup [rd m.x, rd m.y, rd (m.h + Rat.divInt 1 2)] := rfl
      have hl : (ms'.map md).length = ms'.length := List.length_map ..
      have hl2 := v.len
      rw [List.length_cons] at hl2
      have hl3 : ms'.length + 1 + 1 ≤ 100000 := by omega
      rw [List.map_append, List.map_cons, List.map_cons, List.map_nil, emd2, emd]
      rw [List.map_cons, emd] at e1
      generalize ms'.map md = M at *
      simp [e1, e2, c, eq_int, at0, at1, at2, rd_half', f1, hl, hl3, fnM, bnd, Mp.ret, lift, stk, seqS, retS, asgS, dropS, ifS, setv, getv, peekv, op1, op2, ap1, ap2, asB, chain2, testM, truM, truO, andV, orV, notV, ifV, andB, orB, notB, argN, argC, mkTup, mkLst, frzd, callM, onMs, subsO, lenO, absO, isiO, D.tg, isTy, tgtT, tgtC, tgtN, par2, par3, forS, seqI, srcD, catO, addO, subO, repO, mulO, fdivO, modO, negO, ltO, leO, gtO, geO, cmpI, gcdO, maxO, minO, intO, tupleO, listO]
    · refine ⟨ms, VX_of h0 v, ?_⟩
      generalize ms.map md = M at *
      simp [e1, e2, c, eq_int, fnM, bnd, Mp.ret, lift, stk, seqS, retS, asgS, dropS, ifS, setv, getv, peekv, op1, op2, ap1, ap2, asB, chain2, testM, truM, truO, andV, orV, notV, ifV, andB, orB, notB, argN, argC, mkTup, mkLst, frzd, callM, onMs, subsO, lenO, absO, isiO, D.tg, isTy, tgtT, tgtC, tgtN, par2, par3, forS, seqI, srcD, catO, addO, subO, repO, mulO, fdivO, modO, negO, ltO, leO, gtO, geO, cmpI, gcdO, maxO, minO, intO, tupleO, listO]
  obtain ⟨t, d3, d4, d5, s3, k3, ht, hph1⟩ := e_ph1 vx n s2 k2.pot
  obtain ⟨x, vs, hv, hl, hph2⟩ := e_ph2 vx (.val (.ref n)) (.val (.str t)) (.val d3) (.val d4) (.val d5) s3
  obtain ⟨e', s4, hph3, k4⟩ := e_ph3 vx n t ht (.val d3) (.val d4) (.val d5) (.val x) vs hv hl s3 k3.pot
  rw [hph1, hph2, hph3] at hen
  refine ⟨s4, ?_⟩
  simp [f_law_right, fnM, hen]
theorem k_count (ns : List Int) : ∃ q : Nat, (∀ s : S, op2 maxO (ret (.int 1)) (op2 minO (ret (.int 2)) (op1 lenO (peekv 0))) ⟨[.val (.scr (ns.map .int)), .un], s.ms⟩ = .ok (.int (q : Nat)) ⟨[.val (.scr (ns.map .int)), .un], s.ms⟩) ∧ q ≤ 2 := by
  have hl : (ns.map D.int).length = ns.length := List.length_map ..
  generalize ns.map D.int = M at *
  by_cases c0 : ns.length = 0
  · refine ⟨1, fun s => ?_, by decide⟩
    simp [hl, c0, fnM, bnd, Mp.ret, lift, stk, seqS, retS, asgS, dropS, ifS, setv, getv, peekv, op1, op2, ap1, ap2, asB, chain2, testM, truM, truO, andV, orV, notV, ifV, andB, orB, notB, argN, argC, mkTup, mkLst, frzd, callM, onMs, subsO, lenO, absO, isiO, D.tg, isTy, tgtT, tgtC, tgtN, par2, par3, forS, seqI, srcD, catO, addO, subO, repO, mulO, fdivO, modO, negO, ltO, leO, gtO, geO, cmpI, gcdO, maxO, minO, intO, tupleO, listO]
  · by_cases c1 : ns.length = 1
    · refine ⟨1, fun s => ?_, by decide⟩
      simp [hl, c1, fnM, bnd, Mp.ret, lift, stk, seqS, retS, asgS, dropS, ifS, setv, getv, peekv, op1, op2, ap1, ap2, asB, chain2, testM, truM, truO, andV, orV, notV, ifV, andB, orB, notB, argN, argC, mkTup, mkLst, frzd, callM, onMs, subsO, lenO, absO, isiO, D.tg, isTy, tgtT, tgtC, tgtN, par2, par3, forS, seqI, srcD, catO, addO, subO, repO, mulO, fdivO, modO, negO, ltO, leO, gtO, geO, cmpI, gcdO, maxO, minO, intO, tupleO, listO]
    · refine ⟨2, fun s => ?_, by decide⟩
      have c2 : (if ((ns.length : Nat) : Int) < 2 then ((ns.length : Nat) : Int) else 2) = 2 := if_neg (by omega)
      simp [hl, c2, fnM, bnd, Mp.ret, lift, stk, seqS, retS, asgS, dropS, ifS, setv, getv, peekv, op1, op2, ap1, ap2, asB, chain2, testM, truM, truO, andV, orV, notV, ifV, andB, orB, notB, argN, argC, mkTup, mkLst, frzd, callM, onMs, subsO, lenO, absO, isiO, D.tg, isTy, tgtT, tgtC, tgtN, par2, par3, forS, seqI, srcD, catO, addO, subO, repO, mulO, fdivO, modO, negO, ltO, leO, gtO, geO, cmpI, gcdO, maxO, minO, intO, tupleO, listO]
theorem k_turn (ns : List Int) (i : Nat) (hi : i ≤ 10) (z : List (List D)) : ∃ st', lcT (setv 1) yesM ce1_law (.int (i : Nat)) ⟨[.val (.scr (ns.map .int)), .un], z⟩ = .ok (some (.bl true)) ⟨[.val (.scr (ns.map .int)), .val (.int (i : Nat))], st'⟩ := by
  obtain ⟨a, b, ep, a0, b0, b1⟩ := e_pot ns i ⟨[], z⟩ hi
  obtain ⟨s2, er⟩ := e_law_right z.length ⟨[], z ++ [[.int a, .int b]]⟩ (pot_new a0 b0 b1)
  generalize ns.map D.int = M at *
  refine ⟨s2, ?_⟩
  simp [lcT, wipeE, yesM, ce1_law, ep, er, fnM, bnd, Mp.ret, lift, stk, seqS, retS, asgS, dropS, ifS, setv, getv, peekv, op1, op2, ap1, ap2, asB, chain2, testM, truM, truO, andV, orV, notV, ifV, andB, orB, notB, argN, argC, mkTup, mkLst, frzd, callM, onMs, subsO, lenO, absO, isiO, D.tg, isTy, tgtT, tgtC, tgtN, par2, par3, forS, seqI, srcD, catO, addO, subO, repO, mulO, fdivO, modO, negO, ltO, leO, gtO, geO, cmpI, gcdO, maxO, minO, intO, tupleO, listO]
end K61

set_option linter.all false
set_option maxRecDepth 100000
namespace K61
open Mp
theorem over_one {o : List D → Option (List D)} {F : M D} {s : S} {d : D} {xs : List D} (h : F s = .ok d s) (ho : o [d] = some xs) : overA o (argC F argN) s = .ok xs s := by
  simp only [overA, argC, argN, bnd, h, Mp.ret, lift, ho]
theorem k_src (ns : List Int) : ∃ q : Nat, overA rng1O (argC (op2 maxO (ret (.int 1)) (op2 minO (ret (.int 2)) (op1 lenO (peekv 0)))) argN) ⟨[.val (.scr (ns.map .int)), .un], []⟩ = .ok (rangeD 0 (q : Nat)) ⟨[.val (.scr (ns.map .int)), .un], []⟩ ∧ q ≤ 2 := by
  obtain ⟨q, hq, hq2⟩ := k_count ns
  have hr : rng1O [.int (q : Nat)] = some (rangeD 0 (q : Nat)) := rng_lit (by omega) (by omega)
  exact ⟨q, over_one (hq ⟨[], []⟩) hr, hq2⟩
theorem k_turns (ns : List Int) : ∃ (ps : List Unit) (st' : List (List D)), c1_law ⟨[.val (.scr (ns.map .int)), .un], []⟩ = .ok (ps.map fun _ => D.bl true) ⟨[.val (.scr (ns.map .int)), .un], st'⟩ := by
  obtain ⟨q, hsrc, hq2⟩ := k_src ns
  obtain ⟨ys, st', h1, h2, h3, h4⟩ := lcM_inv (vs := [1]) (t := setv 1) (c := yesM) (f := ce1_law) (fun _ => True) (fun y => ∃ p : Unit, y = D.bl true ∧ True) hsrc (by simp [rangeD]; omega) (by simp) trivial (by
      intro x hx z _
      unfold rangeD at hx
      obtain ⟨i, hi, rfl⟩ := List.mem_map.mp hx
      have hi := List.mem_range.mp hi
      obtain ⟨s2, h⟩ := k_turn ns i (by omega) z
      rw [Int.zero_add]
      have hw : wipeE [.val (.scr (ns.map D.int)), .un] [1] = [.val (.scr (ns.map D.int)), .un] := by simp [wipeE]
      have hw2 : wipeE [.val (.scr (ns.map D.int)), .val (.int (i : Nat))] [1] = [.val (.scr (ns.map D.int)), .un] := by simp [wipeE]
      generalize ce1_law = F at *
      refine ⟨.bl true, [.val (.scr (ns.map .int)), .val (.int (i : Nat))], s2, ?_, ?_, trivial, (), rfl, trivial⟩
      · simp only [hw]
        exact h
      · simp only [hw]
        exact hw2)
  obtain ⟨ps, rfl, _⟩ := mapped (fun _ : Unit => D.bl true) (fun _ => True) h4
  refine ⟨ps, st', ?_⟩
  unfold c1_law
  rw [h1]
  simp [restE, wipeE, keepVal]
theorem plain0 (ns : List Int) : ∃ s', f_law [.scr (ns.map .int)] ⟨[], []⟩ = .ok (.bl true) s' := by
  obtain ⟨ps, st', hc⟩ := k_turns ns
  have ha := fun s => all_map (fun _ : Unit => true) ps s
  have et : ps.all (fun _ => true) = true := by simp
  rw [et] at ha
  generalize (ps.map fun _ : Unit => D.bl true) = B at *
  generalize ns.map D.int = M at *
  refine ⟨⟨[], st'⟩, ?_⟩
  simp [f_law, m_law, hc, ha, fnM, bnd, Mp.ret, lift, stk, seqS, retS, asgS, dropS, ifS, setv, getv, peekv, op1, op2, ap1, ap2, asB, chain2, testM, truM, truO, andV, orV, notV, ifV, andB, orB, notB, argN, argC, mkTup, mkLst, frzd, callM, onMs, subsO, lenO, absO, isiO, D.tg, isTy, tgtT, tgtC, tgtN, par2, par3, forS, seqI, srcD, catO, addO, subO, repO, mulO, fdivO, modO, negO, ltO, leO, gtO, geO, cmpI, gcdO, maxO, minO, intO, tupleO, listO]
theorem plain : ∀ ns : List Int, ns.length ≤ 63 → (∀ z ∈ ns, PySem.Builtin.Int.intBits z ≤ 1048576) → ∃ s', f_law [.scr (ns.map .int)] ⟨[], []⟩ = .ok (.bl true) s' := fun ns _ _ => plain0 ns
end K61

set_option Elab.async false
set_option linter.all false
set_option maxRecDepth 100000
set_option maxHeartbeats 4000000
open PySem PySem.W PyProof.Rows
set_option maxHeartbeats 0 in
theorem PySem.Challenge.cw_roofshadows_k61_whole_masts_and_who_is_n_holds : PySem.Challenge.rw_roofshadows_k61_whole_masts_and_who_is_n.Holds := by
  w_on; o_law; k_head; (case hw => w_witness2)
  k_fill
  refine Mp.walk_G (l := PySem.Challenge.rw_roofshadows_k61_whole_masts_and_who_is_n) (n := 63) (k := 45) (x := "script") rfl (by decide) rfl ⟨rfl, by decide, by decide⟩ Mp.callerA_guards (fun w h Y => PySem.W.kIn_of Y) ?F
  case F =>
    intro w mg fa h Y KX G hmg
    obtain ⟨a_is_integer, d_is_integer, F_is_integer, g_is_integer⟩ : ∃ f fd, L2.Fun _ "is_integer" "is_integer" K61.s_is_integer f fd ∧ mg "is_integer" = some (.ref f) := by
      refine' Mp.fun_get KX G ?a ?l ?c ?k
      (case a => k_is); (case l => k_is); (case c => k_is); (case k => k_is)
    obtain ⟨a_is_within, d_is_within, F_is_within, g_is_within⟩ : ∃ f fd, L2.Fun _ "is_within" "is_within" K61.s_is_within f fd ∧ mg "is_within" = some (.ref f) := by
      refine' Mp.fun_get KX G ?a ?l ?c ?k
      (case a => k_is); (case l => k_is); (case c => k_is); (case k => k_is)
    obtain ⟨a_is_row, d_is_row, F_is_row, g_is_row⟩ : ∃ f fd, L2.Fun _ "is_row" "is_row" K61.s_is_row f fd ∧ mg "is_row" = some (.ref f) := by
      refine' Mp.fun_get KX G ?a ?l ?c ?k
      (case a => k_is); (case l => k_is); (case c => k_is); (case k => k_is)
    obtain ⟨a_fraction, d_fraction, F_fraction, g_fraction⟩ : ∃ f fd, L2.Fun _ "fraction" "fraction" K61.s_fraction f fd ∧ mg "fraction" = some (.ref f) := by
      refine' Mp.fun_get KX G ?a ?l ?c ?k
      (case a => k_is); (case l => k_is); (case c => k_is); (case k => k_is)
    obtain ⟨a_plus, d_plus, F_plus, g_plus⟩ : ∃ f fd, L2.Fun _ "plus" "plus" K61.s_plus f fd ∧ mg "plus" = some (.ref f) := by
      refine' Mp.fun_get KX G ?a ?l ?c ?k
      (case a => k_is); (case l => k_is); (case c => k_is); (case k => k_is)
    obtain ⟨a_opposite, d_opposite, F_opposite, g_opposite⟩ : ∃ f fd, L2.Fun _ "opposite" "opposite" K61.s_opposite f fd ∧ mg "opposite" = some (.ref f) := by
      refine' Mp.fun_get KX G ?a ?l ?c ?k
      (case a => k_is); (case l => k_is); (case c => k_is); (case k => k_is)
    obtain ⟨a_minus, d_minus, F_minus, g_minus⟩ : ∃ f fd, L2.Fun _ "minus" "minus" K61.s_minus f fd ∧ mg "minus" = some (.ref f) := by
      refine' Mp.fun_get KX G ?a ?l ?c ?k
      (case a => k_is); (case l => k_is); (case c => k_is); (case k => k_is)
    obtain ⟨a_product, d_product, F_product, g_product⟩ : ∃ f fd, L2.Fun _ "product" "product" K61.s_product f fd ∧ mg "product" = some (.ref f) := by
      refine' Mp.fun_get KX G ?a ?l ?c ?k
      (case a => k_is); (case l => k_is); (case c => k_is); (case k => k_is)
    obtain ⟨a_is_less, d_is_less, F_is_less, g_is_less⟩ : ∃ f fd, L2.Fun _ "is_less" "is_less" K61.s_is_less f fd ∧ mg "is_less" = some (.ref f) := by
      refine' Mp.fun_get KX G ?a ?l ?c ?k
      (case a => k_is); (case l => k_is); (case c => k_is); (case k => k_is)
    obtain ⟨a_least, d_least, F_least, g_least⟩ : ∃ f fd, L2.Fun _ "least" "least" K61.s_least f fd ∧ mg "least" = some (.ref f) := by
      refine' Mp.fun_get KX G ?a ?l ?c ?k
      (case a => k_is); (case l => k_is); (case c => k_is); (case k => k_is)
    obtain ⟨a_shown, d_shown, F_shown, g_shown⟩ : ∃ f fd, L2.Fun _ "shown" "shown" K61.s_shown f fd ∧ mg "shown" = some (.ref f) := by
      refine' Mp.fun_get KX G ?a ?l ?c ?k
      (case a => k_is); (case l => k_is); (case c => k_is); (case k => k_is)
    obtain ⟨a_is_ratio, d_is_ratio, F_is_ratio, g_is_ratio⟩ : ∃ f fd, L2.Fun _ "is_ratio" "is_ratio" K61.s_is_ratio f fd ∧ mg "is_ratio" = some (.ref f) := by
      refine' Mp.fun_get KX G ?a ?l ?c ?k
      (case a => k_is); (case l => k_is); (case c => k_is); (case k => k_is)
    obtain ⟨a_is_place, d_is_place, F_is_place, g_is_place⟩ : ∃ f fd, L2.Fun _ "is_place" "is_place" K61.s_is_place f fd ∧ mg "is_place" = some (.ref f) := by
      refine' Mp.fun_get KX G ?a ?l ?c ?k
      (case a => k_is); (case l => k_is); (case c => k_is); (case k => k_is)
    obtain ⟨a_want_place, d_want_place, F_want_place, g_want_place⟩ : ∃ f fd, L2.Fun _ "want_place" "want_place" K61.s_want_place f fd ∧ mg "want_place" = some (.ref f) := by
      refine' Mp.fun_get KX G ?a ?l ?c ?k
      (case a => k_is); (case l => k_is); (case c => k_is); (case k => k_is)
    obtain ⟨a_is_mast, d_is_mast, F_is_mast, g_is_mast⟩ : ∃ f fd, L2.Fun _ "is_mast" "is_mast" K61.s_is_mast f fd ∧ mg "is_mast" = some (.ref f) := by
      refine' Mp.fun_get KX G ?a ?l ?c ?k
      (case a => k_is); (case l => k_is); (case c => k_is); (case k => k_is)
    obtain ⟨a_are_masts_of, d_are_masts_of, F_are_masts_of, g_are_masts_of⟩ : ∃ f fd, L2.Fun _ "are_masts_of" "are_masts_of" K61.s_are_masts_of f fd ∧ mg "are_masts_of" = some (.ref f) := by
      refine' Mp.fun_get KX G ?a ?l ?c ?k
      (case a => k_is); (case l => k_is); (case c => k_is); (case k => k_is)
    obtain ⟨a_want_masts, d_want_masts, F_want_masts, g_want_masts⟩ : ∃ f fd, L2.Fun _ "want_masts" "want_masts" K61.s_want_masts f fd ∧ mg "want_masts" = some (.ref f) := by
      refine' Mp.fun_get KX G ?a ?l ?c ?k
      (case a => k_is); (case l => k_is); (case c => k_is); (case k => k_is)
    obtain ⟨a_want_mast, d_want_mast, F_want_mast, g_want_mast⟩ : ∃ f fd, L2.Fun _ "want_mast" "want_mast" K61.s_want_mast f fd ∧ mg "want_mast" = some (.ref f) := by
      refine' Mp.fun_get KX G ?a ?l ?c ?k
      (case a => k_is); (case l => k_is); (case c => k_is); (case k => k_is)
    obtain ⟨a_square_of, d_square_of, F_square_of, g_square_of⟩ : ∃ f fd, L2.Fun _ "square_of" "square_of" K61.s_square_of f fd ∧ mg "square_of" = some (.ref f) := by
      refine' Mp.fun_get KX G ?a ?l ?c ?k
      (case a => k_is); (case l => k_is); (case c => k_is); (case k => k_is)
    obtain ⟨a_plane_by, d_plane_by, F_plane_by, g_plane_by⟩ : ∃ f fd, L2.Fun _ "plane_by" "plane_by" K61.s_plane_by f fd ∧ mg "plane_by" = some (.ref f) := by
      refine' Mp.fun_get KX G ?a ?l ?c ?k
      (case a => k_is); (case l => k_is); (case c => k_is); (case k => k_is)
    obtain ⟨a_removal_by, d_removal_by, F_removal_by, g_removal_by⟩ : ∃ f fd, L2.Fun _ "removal_by" "removal_by" K61.s_removal_by f fd ∧ mg "removal_by" = some (.ref f) := by
      refine' Mp.fun_get KX G ?a ?l ?c ?k
      (case a => k_is); (case l => k_is); (case c => k_is); (case k => k_is)
    obtain ⟨a_nearest_by, d_nearest_by, F_nearest_by, g_nearest_by⟩ : ∃ f fd, L2.Fun _ "nearest_by" "nearest_by" K61.s_nearest_by f fd ∧ mg "nearest_by" = some (.ref f) := by
      refine' Mp.fun_get KX G ?a ?l ?c ?k
      (case a => k_is); (case l => k_is); (case c => k_is); (case k => k_is)
    obtain ⟨a_are_masts, d_are_masts, F_are_masts, g_are_masts⟩ : ∃ f fd, L2.Fun _ "are_masts" "are_masts" K61.s_are_masts f fd ∧ mg "are_masts" = some (.ref f) := by
      refine' Mp.fun_get KX G ?a ?l ?c ?k
      (case a => k_is); (case l => k_is); (case c => k_is); (case k => k_is)
    obtain ⟨a_removal, d_removal, F_removal, g_removal⟩ : ∃ f fd, L2.Fun _ "removal" "removal" K61.s_removal f fd ∧ mg "removal" = some (.ref f) := by
      refine' Mp.fun_get KX G ?a ?l ?c ?k
      (case a => k_is); (case l => k_is); (case c => k_is); (case k => k_is)
    obtain ⟨a_nearest, d_nearest, F_nearest, g_nearest⟩ : ∃ f fd, L2.Fun _ "nearest" "nearest" K61.s_nearest f fd ∧ mg "nearest" = some (.ref f) := by
      refine' Mp.fun_get KX G ?a ?l ?c ?k
      (case a => k_is); (case l => k_is); (case c => k_is); (case k => k_is)
    obtain ⟨a_mast_plane, d_mast_plane, F_mast_plane, g_mast_plane⟩ : ∃ f fd, L2.Fun _ "mast_plane" "mast_plane" K61.s_mast_plane f fd ∧ mg "mast_plane" = some (.ref f) := by
      refine' Mp.fun_get KX G ?a ?l ?c ?k
      (case a => k_is); (case l => k_is); (case c => k_is); (case k => k_is)
    obtain ⟨a_law_pot, d_law_pot, F_law_pot, g_law_pot⟩ : ∃ f fd, L2.Fun _ "_law_pot" "_law_pot" K61.s_law_pot f fd ∧ mg "_law_pot" = some (.ref f) := by
      refine' Mp.fun_get KX G ?a ?l ?c ?k
      (case a => k_is); (case l => k_is); (case c => k_is); (case k => k_is)
    obtain ⟨a_law_draw, d_law_draw, F_law_draw, g_law_draw⟩ : ∃ f fd, L2.Fun _ "_law_draw" "_law_draw" K61.s_law_draw f fd ∧ mg "_law_draw" = some (.ref f) := by
      refine' Mp.fun_get KX G ?a ?l ?c ?k
      (case a => k_is); (case l => k_is); (case c => k_is); (case k => k_is)
    obtain ⟨a_law_pick, d_law_pick, F_law_pick, g_law_pick⟩ : ∃ f fd, L2.Fun _ "_law_pick" "_law_pick" K61.s_law_pick f fd ∧ mg "_law_pick" = some (.ref f) := by
      refine' Mp.fun_get KX G ?a ?l ?c ?k
      (case a => k_is); (case l => k_is); (case c => k_is); (case k => k_is)
    obtain ⟨a_law_low, d_law_low, F_law_low, g_law_low⟩ : ∃ f fd, L2.Fun _ "_law_low" "_law_low" K61.s_law_low f fd ∧ mg "_law_low" = some (.ref f) := by
      refine' Mp.fun_get KX G ?a ?l ?c ?k
      (case a => k_is); (case l => k_is); (case c => k_is); (case k => k_is)
    obtain ⟨a_law_plus, d_law_plus, F_law_plus, g_law_plus⟩ : ∃ f fd, L2.Fun _ "_law_plus" "_law_plus" K61.s_law_plus f fd ∧ mg "_law_plus" = some (.ref f) := by
      refine' Mp.fun_get KX G ?a ?l ?c ?k
      (case a => k_is); (case l => k_is); (case c => k_is); (case k => k_is)
    obtain ⟨a_law_minus, d_law_minus, F_law_minus, g_law_minus⟩ : ∃ f fd, L2.Fun _ "_law_minus" "_law_minus" K61.s_law_minus f fd ∧ mg "_law_minus" = some (.ref f) := by
      refine' Mp.fun_get KX G ?a ?l ?c ?k
      (case a => k_is); (case l => k_is); (case c => k_is); (case k => k_is)
    obtain ⟨a_law_times, d_law_times, F_law_times, g_law_times⟩ : ∃ f fd, L2.Fun _ "_law_times" "_law_times" K61.s_law_times f fd ∧ mg "_law_times" = some (.ref f) := by
      refine' Mp.fun_get KX G ?a ?l ?c ?k
      (case a => k_is); (case l => k_is); (case c => k_is); (case k => k_is)
    obtain ⟨a_law_less, d_law_less, F_law_less, g_law_less⟩ : ∃ f fd, L2.Fun _ "_law_less" "_law_less" K61.s_law_less f fd ∧ mg "_law_less" = some (.ref f) := by
      refine' Mp.fun_get KX G ?a ?l ?c ?k
      (case a => k_is); (case l => k_is); (case c => k_is); (case k => k_is)
    obtain ⟨a_law_is_ratio, d_law_is_ratio, F_law_is_ratio, g_law_is_ratio⟩ : ∃ f fd, L2.Fun _ "_law_is_ratio" "_law_is_ratio" K61.s_law_is_ratio f fd ∧ mg "_law_is_ratio" = some (.ref f) := by
      refine' Mp.fun_get KX G ?a ?l ?c ?k
      (case a => k_is); (case l => k_is); (case c => k_is); (case k => k_is)
    obtain ⟨a_law_removal, d_law_removal, F_law_removal, g_law_removal⟩ : ∃ f fd, L2.Fun _ "_law_removal" "_law_removal" K61.s_law_removal f fd ∧ mg "_law_removal" = some (.ref f) := by
      refine' Mp.fun_get KX G ?a ?l ?c ?k
      (case a => k_is); (case l => k_is); (case c => k_is); (case k => k_is)
    obtain ⟨a_law_nearest, d_law_nearest, F_law_nearest, g_law_nearest⟩ : ∃ f fd, L2.Fun _ "_law_nearest" "_law_nearest" K61.s_law_nearest f fd ∧ mg "_law_nearest" = some (.ref f) := by
      refine' Mp.fun_get KX G ?a ?l ?c ?k
      (case a => k_is); (case l => k_is); (case c => k_is); (case k => k_is)
    obtain ⟨a_law_draw_ratio, d_law_draw_ratio, F_law_draw_ratio, g_law_draw_ratio⟩ : ∃ f fd, L2.Fun _ "_law_draw_ratio" "_law_draw_ratio" K61.s_law_draw_ratio f fd ∧ mg "_law_draw_ratio" = some (.ref f) := by
      refine' Mp.fun_get KX G ?a ?l ?c ?k
      (case a => k_is); (case l => k_is); (case c => k_is); (case k => k_is)
    obtain ⟨a_law_masts, d_law_masts, F_law_masts, g_law_masts⟩ : ∃ f fd, L2.Fun _ "_law_masts" "_law_masts" K61.s_law_masts f fd ∧ mg "_law_masts" = some (.ref f) := by
      refine' Mp.fun_get KX G ?a ?l ?c ?k
      (case a => k_is); (case l => k_is); (case c => k_is); (case k => k_is)
    obtain ⟨a_law_bent, d_law_bent, F_law_bent, g_law_bent⟩ : ∃ f fd, L2.Fun _ "_law_bent" "_law_bent" K61.s_law_bent f fd ∧ mg "_law_bent" = some (.ref f) := by
      refine' Mp.fun_get KX G ?a ?l ?c ?k
      (case a => k_is); (case l => k_is); (case c => k_is); (case k => k_is)
    obtain ⟨a_law_are_masts, d_law_are_masts, F_law_are_masts, g_law_are_masts⟩ : ∃ f fd, L2.Fun _ "_law_are_masts" "_law_are_masts" K61.s_law_are_masts f fd ∧ mg "_law_are_masts" = some (.ref f) := by
      refine' Mp.fun_get KX G ?a ?l ?c ?k
      (case a => k_is); (case l => k_is); (case c => k_is); (case k => k_is)
    obtain ⟨a_law_place_right, d_law_place_right, F_law_place_right, g_law_place_right⟩ : ∃ f fd, L2.Fun _ "_law_place_right" "_law_place_right" K61.s_law_place_right f fd ∧ mg "_law_place_right" = some (.ref f) := by
      refine' Mp.fun_get KX G ?a ?l ?c ?k
      (case a => k_is); (case l => k_is); (case c => k_is); (case k => k_is)
    obtain ⟨a_law_right, d_law_right, F_law_right, g_law_right⟩ : ∃ f fd, L2.Fun _ "_law_right" "_law_right" K61.s_law_right f fd ∧ mg "_law_right" = some (.ref f) := by
      refine' Mp.fun_get KX G ?a ?l ?c ?k
      (case a => k_is); (case l => k_is); (case c => k_is); (case k => k_is)
    obtain ⟨a_law, d_law, F_law, g_law⟩ : ∃ f fd, L2.Fun _ "law" "law" K61.s_law f fd ∧ mg "law" = some (.ref f) := by
      refine' Mp.fun_get KX G ?a ?l ?c ?k
      (case a => k_is); (case l => k_is); (case c => k_is); (case k => k_is)
    have ea : a_law = fa := Mp.ref_inj (g_law.symm.trans hmg)
    have z_abs : mg "abs" = none := PySem.W.mg_none_of KX G (by k_is)
    have z_all : mg "all" = none := PySem.W.mg_none_of KX G (by k_is)
    have z_any : mg "any" = none := PySem.W.mg_none_of KX G (by k_is)
    have z_bool : mg "bool" = none := PySem.W.mg_none_of KX G (by k_is)
    have z_divmod : mg "divmod" = none := PySem.W.mg_none_of KX G (by k_is)
    have z_enumerate : mg "enumerate" = none := PySem.W.mg_none_of KX G (by k_is)
    have z_gcd : mg "gcd" = some (.builtin "math.gcd") := PySem.W.mg_of KX G (by k_is)
    have z_int : mg "int" = none := PySem.W.mg_none_of KX G (by k_is)
    have z_isinstance : mg "isinstance" = none := PySem.W.mg_none_of KX G (by k_is)
    have z_len : mg "len" = none := PySem.W.mg_none_of KX G (by k_is)
    have z_list : mg "list" = none := PySem.W.mg_none_of KX G (by k_is)
    have z_max : mg "max" = none := PySem.W.mg_none_of KX G (by k_is)
    have z_min : mg "min" = none := PySem.W.mg_none_of KX G (by k_is)
    have z_range : mg "range" = none := PySem.W.mg_none_of KX G (by k_is)
    have z_repr : mg "repr" = none := PySem.W.mg_none_of KX G (by k_is)
    have z_set : mg "set" = none := PySem.W.mg_none_of KX G (by k_is)
    have z_tuple : mg "tuple" = none := PySem.W.mg_none_of KX G (by k_is)
    have g_BOUND : ∃ t, mg "BOUND" = some (.int (10000000000000000000000000000000000000000000000000000000000000000000000000000000000000000000000000000000000000000000000000000000000000000000000000000000000000000000000000000000000000000000000000000000000000000000000000000000000000000000000000000000000000000000000000000000000000000000000000000000000000000000000000000000000000000000000000000000000000000000000000000000000000000000000000000000000000000) t) := by
      refine' Mp.gint_get KX G ?a
      (case a => k_is)
    have g_MOST_MASTS : ∃ t, mg "MOST_MASTS" = some (.int (60) t) := by
      refine' Mp.gint_get KX G ?a
      (case a => k_is)
    obtain g_TWO : Mp.GTup _ mg "TWO" [(.int (2)), (.int (1))] := by
      refine' Mp.gtup_get2 KX G ?a ?b
      (case a => k_is); (case b => k_is)
    let t := ({
      a_is_integer := a_is_integer, d_is_integer := d_is_integer, F_is_integer := F_is_integer, C_is_integer := ⟨g_is_integer, F_is_integer.kp, F_is_integer.binds fun _ _ _ _ _ _ us hl => match us, hl with | [_], _ => rfl⟩,
      a_is_within := a_is_within, d_is_within := d_is_within, F_is_within := F_is_within, C_is_within := ⟨g_is_within, F_is_within.kp, F_is_within.binds fun _ _ _ _ _ _ us hl => match us, hl with | [_, _, _], _ => rfl⟩,
      a_is_row := a_is_row, d_is_row := d_is_row, F_is_row := F_is_row, C_is_row := ⟨g_is_row, F_is_row.kp, F_is_row.binds fun _ _ _ _ _ _ us hl => match us, hl with | [_, _], _ => rfl⟩,
      a_fraction := a_fraction, d_fraction := d_fraction, F_fraction := F_fraction, C_fraction := ⟨g_fraction, F_fraction.kp, F_fraction.binds fun _ _ _ _ _ _ us hl => match us, hl with | [_, _], _ => rfl⟩,
      a_plus := a_plus, d_plus := d_plus, F_plus := F_plus, C_plus := ⟨g_plus, F_plus.kp, F_plus.binds fun _ _ _ _ _ _ us hl => match us, hl with | [_, _], _ => rfl⟩,
      a_opposite := a_opposite, d_opposite := d_opposite, F_opposite := F_opposite, C_opposite := ⟨g_opposite, F_opposite.kp, F_opposite.binds fun _ _ _ _ _ _ us hl => match us, hl with | [_], _ => rfl⟩,
      a_minus := a_minus, d_minus := d_minus, F_minus := F_minus, C_minus := ⟨g_minus, F_minus.kp, F_minus.binds fun _ _ _ _ _ _ us hl => match us, hl with | [_, _], _ => rfl⟩,
      a_product := a_product, d_product := d_product, F_product := F_product, C_product := ⟨g_product, F_product.kp, F_product.binds fun _ _ _ _ _ _ us hl => match us, hl with | [_, _], _ => rfl⟩,
      a_is_less := a_is_less, d_is_less := d_is_less, F_is_less := F_is_less, C_is_less := ⟨g_is_less, F_is_less.kp, F_is_less.binds fun _ _ _ _ _ _ us hl => match us, hl with | [_, _], _ => rfl⟩,
      a_least := a_least, d_least := d_least, F_least := F_least, C_least := ⟨g_least, F_least.kp, F_least.binds fun _ _ _ _ _ _ us hl => match us, hl with | [_], _ => rfl⟩,
      a_shown := a_shown, d_shown := d_shown, F_shown := F_shown, C_shown := ⟨g_shown, F_shown.kp, F_shown.binds fun _ _ _ _ _ _ us hl => match us, hl with | [_], _ => rfl⟩,
      a_is_ratio := a_is_ratio, d_is_ratio := d_is_ratio, F_is_ratio := F_is_ratio, C_is_ratio := ⟨g_is_ratio, F_is_ratio.kp, F_is_ratio.binds fun _ _ _ _ _ _ us hl => match us, hl with | [_], _ => rfl⟩,
      a_is_place := a_is_place, d_is_place := d_is_place, F_is_place := F_is_place, C_is_place := ⟨g_is_place, F_is_place.kp, F_is_place.binds fun _ _ _ _ _ _ us hl => match us, hl with | [_], _ => rfl⟩,
      a_want_place := a_want_place, d_want_place := d_want_place, F_want_place := F_want_place, C_want_place := ⟨g_want_place, F_want_place.kp, F_want_place.binds fun _ _ _ _ _ _ us hl => match us, hl with | [_], _ => rfl⟩,
      a_is_mast := a_is_mast, d_is_mast := d_is_mast, F_is_mast := F_is_mast, C_is_mast := ⟨g_is_mast, F_is_mast.kp, F_is_mast.binds fun _ _ _ _ _ _ us hl => match us, hl with | [_], _ => rfl⟩,
      a_are_masts_of := a_are_masts_of, d_are_masts_of := d_are_masts_of, F_are_masts_of := F_are_masts_of, C_are_masts_of := ⟨g_are_masts_of, F_are_masts_of.kp, F_are_masts_of.binds fun _ _ _ _ _ _ us hl => match us, hl with | [_], _ => rfl⟩,
      a_want_masts := a_want_masts, d_want_masts := d_want_masts, F_want_masts := F_want_masts, C_want_masts := ⟨g_want_masts, F_want_masts.kp, F_want_masts.binds fun _ _ _ _ _ _ us hl => match us, hl with | [_], _ => rfl⟩,
      a_want_mast := a_want_mast, d_want_mast := d_want_mast, F_want_mast := F_want_mast, C_want_mast := ⟨g_want_mast, F_want_mast.kp, F_want_mast.binds fun _ _ _ _ _ _ us hl => match us, hl with | [_, _], _ => rfl⟩,
      a_square_of := a_square_of, d_square_of := d_square_of, F_square_of := F_square_of, C_square_of := ⟨g_square_of, F_square_of.kp, F_square_of.binds fun _ _ _ _ _ _ us hl => match us, hl with | [_, _], _ => rfl⟩,
      a_plane_by := a_plane_by, d_plane_by := d_plane_by, F_plane_by := F_plane_by, C_plane_by := ⟨g_plane_by, F_plane_by.kp, F_plane_by.binds fun _ _ _ _ _ _ us hl => match us, hl with | [_], _ => rfl⟩,
      a_removal_by := a_removal_by, d_removal_by := d_removal_by, F_removal_by := F_removal_by, C_removal_by := ⟨g_removal_by, F_removal_by.kp, F_removal_by.binds fun _ _ _ _ _ _ us hl => match us, hl with | [_, _], _ => rfl⟩,
      a_nearest_by := a_nearest_by, d_nearest_by := d_nearest_by, F_nearest_by := F_nearest_by, C_nearest_by := ⟨g_nearest_by, F_nearest_by.kp, F_nearest_by.binds fun _ _ _ _ _ _ us hl => match us, hl with | [_, _], _ => rfl⟩,
      a_are_masts := a_are_masts, d_are_masts := d_are_masts, F_are_masts := F_are_masts, C_are_masts := ⟨g_are_masts, F_are_masts.kp, F_are_masts.binds fun _ _ _ _ _ _ us hl => match us, hl with | [_], _ => rfl⟩,
      a_removal := a_removal, d_removal := d_removal, F_removal := F_removal, C_removal := ⟨g_removal, F_removal.kp, F_removal.binds fun _ _ _ _ _ _ us hl => match us, hl with | [_, _, _], _ => rfl⟩,
      a_nearest := a_nearest, d_nearest := d_nearest, F_nearest := F_nearest, C_nearest := ⟨g_nearest, F_nearest.kp, F_nearest.binds fun _ _ _ _ _ _ us hl => match us, hl with | [_, _], _ => rfl⟩,
      a_mast_plane := a_mast_plane, d_mast_plane := d_mast_plane, F_mast_plane := F_mast_plane, C_mast_plane := ⟨g_mast_plane, F_mast_plane.kp, F_mast_plane.binds fun _ _ _ _ _ _ us hl => match us, hl with | [_, _], _ => rfl⟩,
      a_law_pot := a_law_pot, d_law_pot := d_law_pot, F_law_pot := F_law_pot, C_law_pot := ⟨g_law_pot, F_law_pot.kp, F_law_pot.binds fun _ _ _ _ _ _ us hl => match us, hl with | [_, _], _ => rfl⟩,
      a_law_draw := a_law_draw, d_law_draw := d_law_draw, F_law_draw := F_law_draw, C_law_draw := ⟨g_law_draw, F_law_draw.kp, F_law_draw.binds fun _ _ _ _ _ _ us hl => match us, hl with | [_, _], _ => rfl⟩,
      a_law_pick := a_law_pick, d_law_pick := d_law_pick, F_law_pick := F_law_pick, C_law_pick := ⟨g_law_pick, F_law_pick.kp, F_law_pick.binds fun _ _ _ _ _ _ us hl => match us, hl with | [_, _], _ => rfl⟩,
      a_law_low := a_law_low, d_law_low := d_law_low, F_law_low := F_law_low, C_law_low := ⟨g_law_low, F_law_low.kp, F_law_low.binds fun _ _ _ _ _ _ us hl => match us, hl with | [_, _], _ => rfl⟩,
      a_law_plus := a_law_plus, d_law_plus := d_law_plus, F_law_plus := F_law_plus, C_law_plus := ⟨g_law_plus, F_law_plus.kp, F_law_plus.binds fun _ _ _ _ _ _ us hl => match us, hl with | [_, _], _ => rfl⟩,
      a_law_minus := a_law_minus, d_law_minus := d_law_minus, F_law_minus := F_law_minus, C_law_minus := ⟨g_law_minus, F_law_minus.kp, F_law_minus.binds fun _ _ _ _ _ _ us hl => match us, hl with | [_, _], _ => rfl⟩,
      a_law_times := a_law_times, d_law_times := d_law_times, F_law_times := F_law_times, C_law_times := ⟨g_law_times, F_law_times.kp, F_law_times.binds fun _ _ _ _ _ _ us hl => match us, hl with | [_, _], _ => rfl⟩,
      a_law_less := a_law_less, d_law_less := d_law_less, F_law_less := F_law_less, C_law_less := ⟨g_law_less, F_law_less.kp, F_law_less.binds fun _ _ _ _ _ _ us hl => match us, hl with | [_, _], _ => rfl⟩,
      a_law_is_ratio := a_law_is_ratio, d_law_is_ratio := d_law_is_ratio, F_law_is_ratio := F_law_is_ratio, C_law_is_ratio := ⟨g_law_is_ratio, F_law_is_ratio.kp, F_law_is_ratio.binds fun _ _ _ _ _ _ us hl => match us, hl with | [_], _ => rfl⟩,
      a_law_removal := a_law_removal, d_law_removal := d_law_removal, F_law_removal := F_law_removal, C_law_removal := ⟨g_law_removal, F_law_removal.kp, F_law_removal.binds fun _ _ _ _ _ _ us hl => match us, hl with | [_, _], _ => rfl⟩,
      a_law_nearest := a_law_nearest, d_law_nearest := d_law_nearest, F_law_nearest := F_law_nearest, C_law_nearest := ⟨g_law_nearest, F_law_nearest.kp, F_law_nearest.binds fun _ _ _ _ _ _ us hl => match us, hl with | [_, _], _ => rfl⟩,
      a_law_draw_ratio := a_law_draw_ratio, d_law_draw_ratio := d_law_draw_ratio, F_law_draw_ratio := F_law_draw_ratio, C_law_draw_ratio := ⟨g_law_draw_ratio, F_law_draw_ratio.kp, F_law_draw_ratio.binds fun _ _ _ _ _ _ us hl => match us, hl with | [_, _], _ => rfl⟩,
      a_law_masts := a_law_masts, d_law_masts := d_law_masts, F_law_masts := F_law_masts, C_law_masts := ⟨g_law_masts, F_law_masts.kp, F_law_masts.binds fun _ _ _ _ _ _ us hl => match us, hl with | [_, _, _], _ => rfl⟩,
      a_law_bent := a_law_bent, d_law_bent := d_law_bent, F_law_bent := F_law_bent, C_law_bent := ⟨g_law_bent, F_law_bent.kp, F_law_bent.binds fun _ _ _ _ _ _ us hl => match us, hl with | [_, _], _ => rfl⟩,
      a_law_are_masts := a_law_are_masts, d_law_are_masts := d_law_are_masts, F_law_are_masts := F_law_are_masts, C_law_are_masts := ⟨g_law_are_masts, F_law_are_masts.kp, F_law_are_masts.binds fun _ _ _ _ _ _ us hl => match us, hl with | [_], _ => rfl⟩,
      a_law_place_right := a_law_place_right, d_law_place_right := d_law_place_right, F_law_place_right := F_law_place_right, C_law_place_right := ⟨g_law_place_right, F_law_place_right.kp, F_law_place_right.binds fun _ _ _ _ _ _ us hl => match us, hl with | [_, _], _ => rfl⟩,
      a_law_right := a_law_right, d_law_right := d_law_right, F_law_right := F_law_right, C_law_right := ⟨g_law_right, F_law_right.kp, F_law_right.binds fun _ _ _ _ _ _ us hl => match us, hl with | [_], _ => rfl⟩,
      a_law := a_law, d_law := d_law, F_law := F_law, C_law := ⟨g_law, F_law.kp, F_law.binds fun _ _ _ _ _ _ us hl => match us, hl with | [_], _ => rfl⟩,
      kb_removal_0_place_mast_masts := Mp.kb_mk F_removal fun _ _ _ _ _ _ us ws h1 h2 => match us, ws, h1, h2 with | [], [_, _, _], _, _ => rfl,
      kb_nearest_0_place_masts := Mp.kb_mk F_nearest fun _ _ _ _ _ _ us ws h1 h2 => match us, ws, h1, h2 with | [], [_, _], _, _ => rfl,
      kb_are_masts_0_value := Mp.kb_mk F_are_masts fun _ _ _ _ _ _ us ws h1 h2 => match us, ws, h1, h2 with | [], [_], _, _ => rfl,
      kb_mast_plane_0_mast_masts := Mp.kb_mk F_mast_plane fun _ _ _ _ _ _ us ws h1 h2 => match us, ws, h1, h2 with | [], [_, _], _, _ => rfl,
      z_abs := z_abs,
      z_all := z_all,
      z_any := z_any,
      z_bool := z_bool,
      z_divmod := z_divmod,
      z_enumerate := z_enumerate,
      g_gcd := z_gcd,
      z_int := z_int,
      z_isinstance := z_isinstance,
      z_len := z_len,
      z_list := z_list,
      z_max := z_max,
      z_min := z_min,
      z_range := z_range,
      z_repr := z_repr,
      z_set := z_set,
      z_tuple := z_tuple,
      g_BOUND := g_BOUND,
      g_MOST_MASTS := g_MOST_MASTS,
      g_TWO := g_TWO } : K61.Tx _ mg)
    refine ⟨d_law, [], fun _ => Mp.lam0, [], K61.f_law, fun p hp => absurd hp (by simp), fun p hp => absurd hp (by simp), fun p hp => absurd hp (by simp), fun p hp => absurd hp (by simp), ?_, K61.plain, fun base _ _ _ => ?_⟩
    · obtain ⟨oc, od, kV, doc, pm, an, cdv, ct, osl, e, _⟩ := F_law.ex
      subst e
      exact fun s u => .of_eq rfl
    · rw [← ea]
      exact K61.ok_law t

