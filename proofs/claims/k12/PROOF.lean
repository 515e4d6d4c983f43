import PyProof.Rows.All
import Wide.All
import OpenK.AllK
import Wide.FinOn
import HandS.ForMost
import HandS.Exc
import HandS.Lambda
import HandS.Deep
import HandS.TupAny
import HandS.TupMul
import HandS.Wide
import HandS.WideBits
import HandS.IsInst
import HandS.Gcd
import HandS.Flow
import HandS.Style
import HandS.Codes
import HandS.FStr
import HandS.RaiseMore
import PyProof.ReprRoads
import HandS.Zip
import HandS.Comp
import HandS.Conv
import HandS.Iter
import KE.GoesNew
import KE.GoesMore
import HandS.Words
import HandS.WordsExc
import HandS.EndTab
import HandS.New
import HandS.Remove
import HandS.Rev
import KE.KeyNested
import HandS.TupSets
import HandS.ExcInit
import HandS.TryMany
import HandS.ExcField
import KE.KExcIs
import HandS.SortRule
import KE.KNestM
import HandS.NoneIn
import HandS.Defaults
import PySem.Challenge.RW_roofshadows_k12_turns_hulls_common_point
set_option Elab.async false
set_option linter.all false
set_option maxRecDepth 100000
set_option maxHeartbeats 4000000
/-! Mp: values by data, mirrors as functions, what a mirror says of the hand layer's readings. -/
namespace Mp
open PySem PySem.Spec L2
open PyProof.Rows hiding St

/-- a value by data: tuples and frozen lists by what is in them; an identity list by its number; a def, a class by its address; a lambda by its frame and its number -/
inductive D where
  | non | bl (b : Bool) | int (i : Int) | str (x : Str) | tup (xs : List D) | lst (xs : List D) | scr (xs : List D) | dct | ref (n : Nat) | obj (a : Addr) | clo (L : Addr) (n : Nat)
/-- a slot: not set, a value, a list that only this slot knows, the exception that a suite holds -/
inductive Sl where
  | un | val (d : D) | own (xs : List D) | exc (c : Value) (fs : List (Str × D))
structure S where
  env : List Sl
  ms : List (List D)
inductive R (α : Type) where
  | ok (a : α) (s : S) | err (c : Value) (fs : List (Str × D)) (s : S) | stuck
abbrev M (α : Type) := S → R α
def ret {α : Type} (a : α) : M α := fun s => .ok a s
def bnd {α β : Type} (m : M α) (k : α → M β) : M β := fun s => match m s with
  | .ok a s' => k a s'
  | .err c fs s' => .err c fs s'
  | .stuck => .stuck
def lift {α : Type} (o : Option α) : M α := fun s => match o with
  | some a => .ok a s
  | none => .stuck
def stk {α : Type} : M α := fun _ => .stuck
/-- a lambda of the text: the def around, its parameters, body, scope -/
structure LamI where
  qual : Str
  sc : Scope
  params : Arguments
  body : Expr
  scope : Scope
  /-- besides: the class of the same number -/
  cls : Addr
/-- the lambda's object, made in the frame whose names stand at L -/
def LamI.at (l : LamI) (L f c' : Addr) : HO := .ext fun h => ∃ (pm ctv : Value), h.get? f = some (PySem.W.kla_obj "<lambda>" (l.qual ++ "<lambda>") l.params l.body l.scope (cloFrom (cellsFrom (L + 1) l.sc.names []) l.scope.names []) pm c' ctv)

/-- what is fixed: the written part, the lambdas of the text -/
structure Kx where
  K : PySem.W.Frag
  lt : Nat → LamI
/-- mirrors tell a class by its number -/
def Kx.tr (K : Kx) : Value → Value
  | .ref n => .ref (K.lt n).cls
  | c => c
mutual
inductive RV (K : Kx) (F : Hp) (φ : List Addr) : D → V → Prop
  | non : RV K F φ .non .non
  | bl (b : Bool) : RV K F φ (.bl b) (.bl b)
  | int (i : Int) : RV K F φ (.int i) (.int i)
  | str (x : Str) : RV K F φ (.str x) (.str x)
  | tup {a : Addr} {vs : List V} {ds : List D} : SqT K.K F a vs → RVs K F φ ds vs → RV K F φ (.tup ds) (.ref a)
  | lst {a : Addr} {vs : List V} {ds : List D} : F a = some (.lst vs) → RVs K F φ ds vs → RV K F φ (.lst ds) (.ref a)
  | scr {a : Addr} {vs : List V} {ds : List D} : SqL K.K F a vs → RVs K F φ ds vs → RV K F φ (.scr ds) (.ref a)
  | dct {a : Addr} : F a = some (.dK []) → RV K F φ .dct (.ref a)
  | ref {n : Nat} {a : Addr} : φ[n]? = some a → RV K F φ (.ref n) (.ref a)
  | obj {a : Addr} : RV K F φ (.obj a) (.ref a)
  | clo {L f c' : Addr} {n : Nat} : F f = some ((K.lt n).at L f c') → F c' = some (LamX.CodeO c' ((K.lt n).qual ++ "<lambda>")) → RV K F φ (.clo L n) (.ref f)
inductive RVs (K : Kx) (F : Hp) (φ : List Addr) : List D → List V → Prop
  | nil : RVs K F φ [] []
  | cons {d : D} {v : V} {ds : List D} {vs : List V} : RV K F φ d v → RVs K F φ ds vs → RVs K F φ (d :: ds) (v :: vs)
end
structure G where
  F : Hp
  φ : List Addr
  ω : Nat → Option Addr

theorem SqT.up {K : PySem.W.Frag} {F F' : Hp} {a : Addr} {xs : List V} (h : ∀ a o, F a = some o → F' a = some o) (q : SqT K F a xs) : SqT K F' a xs := by
  rcases q with (q | ⟨o, q⟩) | q
  · exact .inl (.inl (h _ _ q))
  · exact .inl (.inr ⟨o, h _ _ q⟩)
  · exact .inr q
theorem SqL.up {K : PySem.W.Frag} {F F' : Hp} {a : Addr} {xs : List V} (h : ∀ a o, F a = some o → F' a = some o) (q : SqL K F a xs) : SqL K F' a xs := by
  rcases q with (q | ⟨o, q⟩) | q
  · exact .inl (.inl (h _ _ q))
  · exact .inl (.inr ⟨o, h _ _ q⟩)
  · exact .inr q
section
variable {K : Kx} {F F' : Hp} {φ φ' : List Addr}
mutual
theorem RV.up (h : ∀ a o, F a = some o → F' a = some o) (hp : ∃ m, φ' = φ ++ m) : ∀ (d : D) (v : V), RV K F φ d v → RV K F' φ' d v
  | .non, _, .non => .non
  | .bl _, _, .bl b => .bl b
  | .int _, _, .int i => .int i
  | .str _, _, .str x => .str x
  | .tup ds, _, .tup s r => .tup (SqT.up h s) (RVs.up h hp ds _ r)
  | .lst ds, _, .lst s r => .lst (h _ _ s) (RVs.up h hp ds _ r)
  | .scr ds, _, .scr s r => .scr (SqL.up h s) (RVs.up h hp ds _ r)
  | .dct, _, .dct e => .dct (h _ _ e)
  | .ref n, _, .ref e => .ref (by
      obtain ⟨m, e2⟩ := hp
      rw [e2, List.getElem?_append_left (List.getElem?_eq_some_iff.mp e).1]
      exact e)
  | .obj _, _, .obj => .obj
  | .clo _ _, _, .clo e e2 => .clo (h _ _ e) (h _ _ e2)
theorem RVs.up (h : ∀ a o, F a = some o → F' a = some o) (hp : ∃ m, φ' = φ ++ m) : ∀ (ds : List D) (vs : List V), RVs K F φ ds vs → RVs K F' φ' ds vs
  | [], _, .nil => .nil
  | d :: ds, _, .cons r q => .cons (RV.up h hp d _ r) (RVs.up h hp ds _ q)
end
theorem RVs.length : ∀ {ds : List D} {vs : List V}, RVs K F φ ds vs → ds.length = vs.length
  | _, _, .nil => rfl
  | _, _, .cons _ q => congrArg (· + 1) (RVs.length q)
theorem RVs.get : ∀ {ds : List D} {vs : List V} {i : Nat} {v : V}, RVs K F φ ds vs → vs[i]? = some v → ∃ d, ds[i]? = some d ∧ RV K F φ d v
  | _, _, _, _, .nil, e => by simp at e
  | _, _, 0, _, .cons r _, e => by
    simp at e
    subst e
    exact ⟨_, rfl, r⟩
  | _, _, i + 1, v, .cons _ q, e => by
    obtain ⟨d, h1, h2⟩ := RVs.get (i := i) (v := v) q (by simpa using e)
    exact ⟨d, by simpa using h1, h2⟩
theorem RVs.getD : ∀ {ds : List D} {vs : List V} {i : Nat} {d : D}, RVs K F φ ds vs → ds[i]? = some d → ∃ v, vs[i]? = some v ∧ RV K F φ d v
  | _, _, _, _, .nil, e => by simp at e
  | _, _, 0, _, .cons r _, e => by
    simp at e
    subst e
    exact ⟨_, rfl, r⟩
  | _, _, i + 1, v, .cons _ q, e => by
    obtain ⟨d, h1, h2⟩ := RVs.getD (i := i) (d := v) q (by simpa using e)
    exact ⟨d, by simpa using h1, h2⟩
theorem RVs.append : ∀ {ds es : List D} {vs us : List V}, RVs K F φ ds vs → RVs K F φ es us → RVs K F φ (ds ++ es) (vs ++ us)
  | _, _, _, _, .nil, q => q
  | _, _, _, _, .cons r t, q => .cons r (RVs.append t q)
theorem RVs.take : ∀ {ds : List D} {vs : List V} (n : Nat), RVs K F φ ds vs → RVs K F φ (ds.take n) (vs.take n)
  | _, _, 0, _ => .nil
  | _, _, _ + 1, .nil => .nil
  | _, _, n + 1, .cons r t => .cons r (RVs.take n t)
theorem RVs.drop : ∀ {ds : List D} {vs : List V} (n : Nat), RVs K F φ ds vs → RVs K F φ (ds.drop n) (vs.drop n)
  | _, _, 0, r => r
  | _, _, _ + 1, .nil => .nil
  | _, _, n + 1, .cons _ t => RVs.drop n t
theorem RVs.set {d : D} {v : V} (r : RV K F φ d v) : ∀ {ds : List D} {vs : List V} (i : Nat), RVs K F φ ds vs → RVs K F φ (ds.set i d) (vs.set i v)
  | _, _, _, .nil => .nil
  | _, _, 0, .cons _ t => .cons r t
  | _, _, i + 1, .cons q t => .cons q (RVs.set r i t)
theorem RVs.reverse {ds : List D} {vs : List V} (h : RVs K F φ ds vs) : RVs K F φ ds.reverse vs.reverse := by
  induction ds generalizing vs with
  | nil =>
    cases h
    exact .nil
  | cons d ds ih =>
    cases h with
    | cons r t =>
      rw [List.reverse_cons, List.reverse_cons]
      exact (ih t).append (.cons r .nil)
end

theorem lst_ne_co {xs : List V} {c : Addr} {q : Str} (h : some (HO.lst xs) = some (LamX.CodeO c q)) : False := by
  injection h with h
  unfold LamX.CodeO at h
  cases h
/-- a code object of a lambda, told frozen from now on -/
def CoF (g' : G) (H' : Hp) (a : Addr) (o : HO) : Prop := ∃ q, o = LamX.CodeO a q ∧ H' a = some (LamX.CodeO a q) ∧ a ∉ g'.φ ∧ ∀ i, g'.ω i ≠ some a
/-- what a piece of code leaves as it was: an expression all but the identity lists -/
structure Ext (g : G) (H : Hp) (g' : G) (H' : Hp) : Prop where
  fr : ∀ a o, g.F a = some o → g'.F a = some o
  ph : ∃ m, g'.φ = g.φ ++ m
  new : ∀ a, a ∈ g'.φ → a ∈ g.φ ∨ H a = none
  fnew : ∀ a o, g'.F a = some o → g.F a = some o ∨ H a = none ∨ (∃ i, g.ω i = some a) ∨ CoF g' H' a o
  nom : ∀ i a, g'.ω i = some a → (∃ j, g.ω j = some a) ∨ H a = none
  there : ∀ b o, H b = some o → ∃ o', H' b = some o'
  keep : ∀ b o, H b = some o → b ∉ g.φ → (∀ ps, o ≠ .tbl ps) → H' b = some o
/-- a statement may change the slots' own lists besides -/
structure ExtS (g : G) (H : Hp) (g' : G) (H' : Hp) : Prop where
  fr : ∀ a o, g.F a = some o → g'.F a = some o
  ph : ∃ m, g'.φ = g.φ ++ m
  new : ∀ a, a ∈ g'.φ → a ∈ g.φ ∨ H a = none
  fnew : ∀ a o, g'.F a = some o → g.F a = some o ∨ H a = none ∨ (∃ i, g.ω i = some a) ∨ CoF g' H' a o
  nom : ∀ i a, g'.ω i = some a → (∃ j, g.ω j = some a) ∨ H a = none
  there : ∀ b o, H b = some o → ∃ o', H' b = some o'
  keep : ∀ b o, H b = some o → b ∉ g.φ → (∀ i, g.ω i ≠ some b) → (∀ ps, o ≠ .tbl ps) → H' b = some o
section
variable {g g1 g2 : G} {H H1 H2 : Hp}
theorem Ext.s (e : Ext g H g1 H1) : ExtS g H g1 H1 := ⟨e.fr, e.ph, e.new, e.fnew, e.nom, e.there, fun b o h n _ t => e.keep b o h n t⟩
theorem Ext.refl (g : G) (H : Hp) : Ext g H g H := ⟨fun _ _ h => h, ⟨[], by simp⟩, fun _ h => .inl h, fun _ _ h => .inl h, fun i a h => .inl ⟨i, h⟩, fun _ o h => ⟨o, h⟩, fun _ _ h _ _ => h⟩
theorem ExtS.refl (g : G) (H : Hp) : ExtS g H g H := (Ext.refl g H).s
theorem Ext.gone (e : Ext g H g1 H1) {a : Addr} (h : H1 a = none) : H a = none := by
  cases q : H a with
  | none => rfl
  | some o =>
    obtain ⟨o', q'⟩ := e.there a o q
    rw [q'] at h
    cases h
theorem ExtS.gone (e : ExtS g H g1 H1) {a : Addr} (h : H1 a = none) : H a = none := by
  cases q : H a with
  | none => rfl
  | some o =>
    obtain ⟨o', q'⟩ := e.there a o q
    rw [q'] at h
    cases h
theorem Ext.trans (a : Ext g H g1 H1) (b : Ext g1 H1 g2 H2) : Ext g H g2 H2 where
  fr := fun x o h => b.fr x o (a.fr x o h)
  ph := by
    obtain ⟨m, e⟩ := a.ph
    obtain ⟨m2, e2⟩ := b.ph
    exact ⟨m ++ m2, by rw [e2, e, List.append_assoc]⟩
  new := fun x h => by
    rcases b.new x h with h | h
    · exact a.new x h
    · exact .inr (a.gone h)
  fnew := fun x o h => by
    rcases b.fnew x o h with h | h | ⟨i, h⟩ | h
    · rcases a.fnew x o h with h | h | h | ⟨q, z1, z2, z3, z4⟩
      · exact .inl h
      · exact .inr (.inl h)
      · exact .inr (.inr (.inl h))
      · exact .inr (.inr (.inr ⟨q, z1, b.keep _ _ z2 z3 (fun ps z => LamX.codeO_ne ps z), fun m => (b.new x m).elim z3 fun y => (nomatch y.symm.trans z2), fun i m => (b.nom i x m).elim (fun ⟨j, y⟩ => z4 j y) fun y => (nomatch y.symm.trans z2)⟩))
    · exact .inr (.inl (a.gone h))
    · rcases a.nom i x h with h | h
      · exact .inr (.inr (.inl h))
      · exact .inr (.inl h)
    · exact .inr (.inr (.inr h))
  nom := fun i x h => by
    rcases b.nom i x h with ⟨j, h⟩ | h
    · exact a.nom j x h
    · exact .inr (a.gone h)
  there := fun x o h => by
    obtain ⟨o', h'⟩ := a.there x o h
    exact b.there x o' h'
  keep := fun x o h n t => by
    have h1 := a.keep x o h n t
    refine b.keep x o h1 (fun hm => ?_) t
    rcases a.new x hm with z | z
    · exact n z
    · rw [z] at h; cases h
theorem ExtS.trans (a : ExtS g H g1 H1) (b : ExtS g1 H1 g2 H2) : ExtS g H g2 H2 where
  fr := fun x o h => b.fr x o (a.fr x o h)
  ph := by
    obtain ⟨m, e⟩ := a.ph
    obtain ⟨m2, e2⟩ := b.ph
    exact ⟨m ++ m2, by rw [e2, e, List.append_assoc]⟩
  new := fun x h => by
    rcases b.new x h with h | h
    · exact a.new x h
    · exact .inr (a.gone h)
  fnew := fun x o h => by
    rcases b.fnew x o h with h | h | ⟨i, h⟩ | h
    · rcases a.fnew x o h with h | h | h | ⟨q, z1, z2, z3, z4⟩
      · exact .inl h
      · exact .inr (.inl h)
      · exact .inr (.inr (.inl h))
      · exact .inr (.inr (.inr ⟨q, z1, b.keep _ _ z2 z3 z4 (fun ps z => LamX.codeO_ne ps z), fun m => (b.new x m).elim z3 fun y => (nomatch y.symm.trans z2), fun i m => (b.nom i x m).elim (fun ⟨j, y⟩ => z4 j y) fun y => (nomatch y.symm.trans z2)⟩))
    · exact .inr (.inl (a.gone h))
    · rcases a.nom i x h with h | h
      · exact .inr (.inr (.inl h))
      · exact .inr (.inl h)
    · exact .inr (.inr (.inr h))
  nom := fun i x h => by
    rcases b.nom i x h with ⟨j, h⟩ | h
    · exact a.nom j x h
    · exact .inr (a.gone h)
  there := fun x o h => by
    obtain ⟨o', h'⟩ := a.there x o h
    exact b.there x o' h'
  keep := fun x o h n w t => by
    have h1 := a.keep x o h n w t
    refine b.keep x o h1 (fun hm => ?_) (fun i hw => ?_) t
    · rcases a.new x hm with z | z
      · exact n z
      · rw [z] at h; cases h
    · rcases a.nom i x hw with ⟨j, z⟩ | z
      · exact w j z
      · rw [z] at h; cases h
theorem Ext.rv {K : Kx} {d : D} {v : V} (e : Ext g H g1 H1) (r : RV K g.F g.φ d v) : RV K g1.F g1.φ d v := RV.up e.fr e.ph d v r
theorem Ext.rvs {K : Kx} {d : List D} {v : List V} (e : Ext g H g1 H1) (r : RVs K g.F g.φ d v) : RVs K g1.F g1.φ d v := RVs.up e.fr e.ph d v r
theorem ExtS.rv {K : Kx} {d : D} {v : V} (e : ExtS g H g1 H1) (r : RV K g.F g.φ d v) : RV K g1.F g1.φ d v := RV.up e.fr e.ph d v r
theorem ExtS.rvs {K : Kx} {d : List D} {v : List V} (e : ExtS g H g1 H1) (r : RVs K g.F g.φ d v) : RVs K g1.F g1.φ d v := RVs.up e.fr e.ph d v r
end
/-- an exception's own dict -/
def REx (K : Kx) (g : G) (H : Hp) (fs : List (Str × D)) : Option Addr → Prop
  | none => fs = []
  | some d => ∃ vs : List V, H d = some (.xd ((fs.map (·.1)).zip vs)) ∧ RVs K g.F g.φ (fs.map (·.2)) vs ∧ d ∉ g.φ ∧ (∀ i, g.ω i ≠ some d)
/-- the identity lists -/
structure RM (K : Kx) (g : G) (H : Hp) (ms : List (List D)) : Prop where
  sub : ∀ a o, g.F a = some o → H a = some o
  mlen : ms.length = g.φ.length
  mem : ∀ (n : Nat) (a : Addr) (ds : List D), g.φ[n]? = some a → ms[n]? = some ds → ∃ vs, H a = some (.lst vs) ∧ RVs K g.F g.φ ds vs ∧ g.F a = none
  nod : g.φ.Nodup
  nt : ∀ a ps, g.F a ≠ some (.tbl ps)
/-- what stays true behind all code: of the frames around -/
structure Bg (K : Kx) where
  P : G → Hp → List (List D) → Prop
  up : ∀ {g H ms g' H' ms'}, P g H ms → ExtS g H g' H' → RM K g' H' ms' → P g' H' ms'
/-- the setting of a piece of code: code tables, the frames around, what is wanted of an exception, the exception that the suite holds -/
structure Pm (K : Kx) where
  T : List (Addr × Str)
  B : Bg K
  W : WX
  xc : Option (Addr × Value × Option Addr)
/-- the frame's slots -/
structure RF (K : Kx) (xc : Option (Addr × Value × Option Addr)) (g : G) (σ : L2.St) (H : Hp) (en : List Sl) : Prop where
  len : en.length = σ.length
  env : ∀ (i : Nat) (d : D), en[i]? = some (Sl.val d) → ∃ v, σ[i]? = some (some v) ∧ RV K g.F g.φ d v
  own : ∀ (i : Nat) (ds : List D), en[i]? = some (Sl.own ds) → ∃ a vs, g.ω i = some a ∧ σ[i]? = some (some (.ref a)) ∧ H a = some (.lst vs) ∧ RVs K g.F g.φ ds vs ∧ g.F a = none ∧ a ∉ g.φ
  exc : ∀ (i : Nat) (c : Value) (fs : List (Str × D)), en[i]? = some (Sl.exc c fs) → ∃ a dx, xc = some (a, K.tr c, dx) ∧ σ[i]? = some (some (.ref a)) ∧ REx K g H fs dx
  is : ∀ i a, g.ω i = some a → ∃ ds, en[i]? = some (Sl.own ds)
  inj : ∀ i j a, g.ω i = some a → g.ω j = some a → i = j
structure RS {K : Kx} (p : Pm K) (g : G) (σ : L2.St) (H : Hp) (s : S) : Prop where
  m : RM K g H s.ms
  f : RF K p.xc g σ H s.env
  tabs : LamX.Tabs p.T H
  bg : p.B.P g H s.ms
theorem RS.go {K : Kx} {p : Pm K} {g g' : G} {σ σ' : L2.St} {H H' : Hp} {s s' : S} (r : RS p g σ H s) (e : ExtS g H g' H') (m : RM K g' H' s'.ms) (f : RF K p.xc g' σ' H' s'.env) (t : LamX.Tabs p.T H') : RS p g' σ' H' s' :=
  ⟨m, f, t, p.B.up r.bg e m⟩
/-! ### liftings -/
inductive Fl where
  | nx | ret (d : D) | bk | ct
/-- v tells d now (it may be a slot's own list) -/
def RVp (K : Kx) (g : G) (H : Hp) (d : D) (v : V) : Prop :=
  RV K g.F g.φ d v ∨ ∃ a vs ds, d = .lst ds ∧ v = .ref a ∧ H a = some (.lst vs) ∧ RVs K g.F g.φ ds vs ∧ a ∉ g.φ
section
variable {K : Kx} (p : Pm K) (σ : L2.St)
/-- what follows from what a mirror hands back: A says how the answer stands -/
def Post {α β : Type} (A : α → β → G → Hp → G → Hp → Prop) (r : R α) (g : G) (H : Hp) (Q : β → Hp → Prop) : Prop := match r with
  | .ok d s' => ∀ v H' g', RS p g' σ H' s' → Ext g H g' H' → A d v g H g' H' → Q v H'
  | .err c fs s' => ∀ H' g' dx, RS p g' σ H' s' → Ext g H g' H' → REx K g' H' fs dx → p.W (K.tr c) dx σ H'
  | .stuck => False
end
/-- a value, one that is only read, a truth value, a list of values, a new list that nothing else knows -/
abbrev AV (K : Kx) : D → V → G → Hp → G → Hp → Prop := fun d v _ _ g' _ => RV K g'.F g'.φ d v
abbrev AP (K : Kx) : D → V → G → Hp → G → Hp → Prop := fun d v _ _ g' H' => RVp K g' H' d v
abbrev AB : Bool → Bool → G → Hp → G → Hp → Prop := fun d v _ _ _ _ => v = d
abbrev AL (K : Kx) : List D → List V → G → Hp → G → Hp → Prop := fun d v _ _ g' _ => RVs K g'.F g'.φ d v
abbrev AF (K : Kx) : List D → V → G → Hp → G → Hp → Prop := fun ds v _ H g' H' => ∃ a vs, v = .ref a ∧ RVs K g'.F g'.φ ds vs ∧ H' a = some (.lst vs) ∧ g'.F a = none ∧ a ∉ g'.φ ∧ (∀ j, g'.ω j ≠ some a) ∧ H a = none
def tG {K : Kx} {α β : Type} (p : Pm K) (A : α → β → G → Hp → G → Hp → Prop) (f : M α) : L2.St → Hp → (β → Hp → Prop) → Prop := fun σ H Q => ∃ g s, RS p g σ H s ∧ Post p σ A (f s) g H Q
abbrev tD {K : Kx} (p : Pm K) (f : M D) : TE := tG p (AV K) f
abbrev tP {K : Kx} (p : Pm K) (f : M D) : TE := tG p (AP K) f
abbrev tB {K : Kx} (p : Pm K) (f : M Bool) : TT := tG p AB f
abbrev tL {K : Kx} (p : Pm K) (f : M (List D)) : TA := tG p (AL K) f
abbrev tF {K : Kx} (p : Pm K) (f : M (List D)) : TE := tG p (AF K) f
def PstS {K : Kx} (p : Pm K) (r : R Fl) (g : G) (H : Hp) (D : Ends) : Prop := match r with
  | .ok .nx s' => ∀ σ' H' g', RS p g' σ' H' s' → ExtS g H g' H' → D.nx σ' H'
  | .ok (.ret d) s' => ∀ v σ' H' g', RS p g' σ' H' s' → ExtS g H g' H' → RV K g'.F g'.φ d v → D.rt v H'
  | .ok .bk s' => ∀ σ' H' g', RS p g' σ' H' s' → ExtS g H g' H' → D.bk σ' H'
  | .ok .ct s' => ∀ σ' H' g', RS p g' σ' H' s' → ExtS g H g' H' → D.ct σ' H'
  | .err c fs s' => ∀ σ' H' g' dx, RS p g' σ' H' s' → ExtS g H g' H' → REx K g' H' fs dx → p.W (K.tr c) dx σ' H'
  | .stuck => False
def tS {K : Kx} (p : Pm K) (f : M Fl) : TS := fun D σ H => ∃ g s, RS p g σ H s ∧ PstS p (f s) g H D

section
variable {K : Kx} {p : Pm K} {σ : L2.St} {g g1 : G} {H H1 : Hp} {s s1 : S}
/-- an answer's standing does not depend on where one looks from -/
def Pre {α β : Type} (A : α → β → G → Hp → G → Hp → Prop) : Prop := ∀ d v g H g1 H1 g' H', Ext g H g1 H1 → A d v g1 H1 g' H' → A d v g H g' H'
theorem preV : Pre (AV K) := fun _ _ _ _ _ _ _ _ _ a => a
theorem preP : Pre (AP K) := fun _ _ _ _ _ _ _ _ _ a => a
theorem preB : Pre AB := fun _ _ _ _ _ _ _ _ _ a => a
theorem preL : Pre (AL K) := fun _ _ _ _ _ _ _ _ _ a => a
theorem preF : Pre (AF K) := fun _ _ _ _ _ _ _ _ e ⟨a, vs, h1, h2, h3, h4, h5, h6, h7⟩ => ⟨a, vs, h1, h2, h3, h4, h5, h6, e.gone h7⟩
theorem Post.pre {α β : Type} {A : α → β → G → Hp → G → Hp → Prop} (pa : Pre A) {r : R α} {Q : β → Hp → Prop} (e : Ext g H g1 H1) (h : Post p σ A r g H Q) : Post p σ A r g1 H1 Q := by
  cases r with
  | ok d s' => exact fun v H' g' a b c => h v H' g' a (e.trans b) (pa _ _ _ _ _ _ _ _ e c)
  | err c fs s' => exact fun H' g' dx a b c => h H' g' dx a (e.trans b) c
  | stuck => exact h
theorem PstS.pre {r : R Fl} {D : Ends} (e : ExtS g H g1 H1) (h : PstS p r g H D) : PstS p r g1 H1 D := by
  cases r with
  | ok d s' =>
    cases d with
    | nx => exact fun σ' H' g' a b => h σ' H' g' a (e.trans b)
    | ret d => exact fun v σ' H' g' a b c => h v σ' H' g' a (e.trans b) c
    | bk => exact fun σ' H' g' a b => h σ' H' g' a (e.trans b)
    | ct => exact fun σ' H' g' a b => h σ' H' g' a (e.trans b)
  | err c fs s' => exact fun σ' H' g' dx a b c => h σ' H' g' dx a (e.trans b) c
  | stuck => exact h
/-- bind: the first part, then the rest from where it ends -/
theorem Post.bnd {α β γ δ : Type} {A : α → β → G → Hp → G → Hp → Prop} {A' : γ → δ → G → Hp → G → Hp → Prop} (pa : Pre A') {m : M α} {k : α → M γ} {Q : δ → Hp → Prop} (h : Post p σ A' (bnd m k s) g H Q) :
    Post p σ A (m s) g H fun v H1 => ∃ g1 s1 d, RS p g1 σ H1 s1 ∧ Ext g H g1 H1 ∧ A d v g H g1 H1 ∧ Post p σ A' (k d s1) g1 H1 Q := by
  unfold Mp.bnd at h
  cases e : m s with
  | ok d s' =>
    rw [e] at h
    exact fun v H' g' a b c => ⟨g', s', d, a, b, c, Post.pre pa b h⟩
  | err c fs s' =>
    rw [e] at h
    exact h
  | stuck =>
    rw [e] at h
    exact h
/-- .. where what follows is a statement -/
theorem PstS.bnd {α β : Type} {A : α → β → G → Hp → G → Hp → Prop} {m : M α} {k : α → M Fl} {D : Ends} (h : PstS p (Mp.bnd m k s) g H D) :
    Post p σ A (m s) g H fun v H1 => ∃ g1 s1 d, RS p g1 σ H1 s1 ∧ Ext g H g1 H1 ∧ A d v g H g1 H1 ∧ PstS p (k d s1) g1 H1 D := by
  unfold Mp.bnd at h
  cases e : m s with
  | ok d s' =>
    rw [e] at h
    exact fun v H' g' a b c => ⟨g', s', d, a, b, c, PstS.pre b.s h⟩
  | err c fs s' =>
    rw [e] at h
    exact fun H' g' dx a b c => h σ H' g' dx a b.s c
  | stuck =>
    rw [e] at h
    exact h
/-- a reading's end is weakened -/
theorem Post.mono {α β : Type} {A : α → β → G → Hp → G → Hp → Prop} {r : R α} {Q Q' : β → Hp → Prop} (h : Post p σ A r g H Q) (w : ∀ v H', Q v H' → Q' v H') : Post p σ A r g H Q' := by
  cases r with
  | ok d s' => exact fun v H' g' a b c => w _ _ (h v H' g' a b c)
  | err c fs s' => exact h
  | stuck => exact h
end
end Mp

set_option Elab.async false
set_option linter.all false
set_option maxRecDepth 100000
set_option maxHeartbeats 4000000
namespace Mp
open PySem PySem.Spec L2
open PyProof.Rows hiding St

theorem ne_tbl {H : Hp} {a P : Addr} {o : HO} {ps : Array Value} (h : H a = some o) (hP : H P = some (.tbl ps)) (n : ∀ ps, o ≠ .tbl ps) : P ≠ a := fun e => by
  rw [e, h] at hP
  cases hP
  exact n _ rfl
/-- tables stay where an object that is no table is written -/
theorem tabs_upd {T : List (Addr × Str)} {H : Hp} {a : Addr} {u : HO} (t : LamX.Tabs T H) (h : ∀ o, H a = some o → (∀ ps, o ≠ .tbl ps) ∧ ∀ φ, o ≠ .ext φ) : LamX.Tabs T (upd H a u) := fun p hp => by
  obtain ⟨ps, h1, h2, h3⟩ := t p hp
  have n1 : p.1 ≠ a := fun e => by
    rw [e] at h1
    exact (h _ h1).1 _ rfl
  refine ⟨ps, by rw [upd_ne n1]; exact h1, h2, fun pos cv hc => ?_⟩
  obtain ⟨c, e1, e2⟩ := h3 pos cv hc
  refine ⟨c, e1, ?_⟩
  have n2 : c ≠ a := fun e => by
    rw [e] at e2
    unfold LamX.CodeO at e2
    exact (h _ e2).2 _ rfl
  rw [upd_ne n2]
  exact e2
section
variable {K : Kx} {p : Pm K} {xc : Option (Addr × Value × Option Addr)} {σ : L2.St} {g g' : G} {H H' : Hp} {s : S} {env : List Sl} {ms : List (List D)}
/-! ### a new object that stays -/
def G.add (g : G) (q : Addr) (o : HO) : G := { g with F := upd g.F q o }
theorem G.add_same {g : G} {q : Addr} {o : HO} : (g.add q o).F q = some o := upd_same
theorem RM.addUp (m : RM K g H ms) {q : Addr} (hq : H q = none) (o : HO) : ∀ b u, g.F b = some u → (g.add q o).F b = some u := fun b u z => by
  have e : b ≠ q := fun e => by
    have := m.sub b u z
    rw [e, hq] at this
    cases this
  rw [show (g.add q o).F b = g.F b from upd_ne e]
  exact z
theorem RM.add (m : RM K g H ms) {q : Addr} (hq : H q = none) (o : HO) (ho : ∀ ps, o ≠ .tbl ps := by intro _ z; cases z) : RM K (g.add q o) (upd H q o) ms where
  sub := fun a u h => by
    by_cases e : a = q
    · subst e
      rw [show (g.add a o).F a = some o from upd_same] at h
      rw [upd_same]
      exact h
    · rw [show (g.add q o).F a = g.F a from upd_ne e] at h
      rw [upd_ne e]
      exact m.sub a u h
  mlen := m.mlen
  mem := fun n a ds h1 h2 => by
    obtain ⟨vs, h3, h4, h5⟩ := m.mem n a ds h1 h2
    have e : a ≠ q := ne_of_none h3 hq
    refine ⟨vs, by rw [upd_ne e]; exact h3, RVs.up (m.addUp hq o) ⟨[], by simp [G.add]⟩ _ _ h4, ?_⟩
    rw [show (g.add q o).F a = g.F a from upd_ne e]
    exact h5
  nod := m.nod
  nt := fun a ps z => by
    by_cases e : a = q
    · rw [e, show (g.add q o).F q = some o from upd_same] at z
      exact ho ps (Option.some.inj z)
    · rw [show (g.add q o).F a = g.F a from upd_ne e] at z
      exact m.nt a ps z
theorem REx.add {fs : List (Str × D)} {dx : Option Addr} (m : RM K g H ms) {q : Addr} (hq : H q = none) (o : HO) (h : REx K g H fs dx) : REx K (g.add q o) (upd H q o) fs dx := by
  cases dx with
  | none => exact h
  | some d =>
    obtain ⟨vs, h1, h2, h3, h4⟩ := h
    exact ⟨vs, by rw [upd_ne (ne_of_none h1 hq)]; exact h1, RVs.up (m.addUp hq o) ⟨[], by simp [G.add]⟩ _ _ h2, h3, h4⟩
theorem RF.add (m : RM K g H ms) (r : RF K xc g σ H env) {q : Addr} (hq : H q = none) (o : HO) : RF K xc (g.add q o) σ (upd H q o) env where
  len := r.len
  env := fun i d h => by
    obtain ⟨v, h1, h2⟩ := r.env i d h
    exact ⟨v, h1, RV.up (m.addUp hq o) ⟨[], by simp [G.add]⟩ _ _ h2⟩
  own := fun i ds h => by
    obtain ⟨a, vs, h1, h2, h3, h4, h5, h6⟩ := r.own i ds h
    have e : a ≠ q := ne_of_none h3 hq
    refine ⟨a, vs, h1, h2, by rw [upd_ne e]; exact h3, RVs.up (m.addUp hq o) ⟨[], by simp [G.add]⟩ _ _ h4, ?_, h6⟩
    rw [show (g.add q o).F a = g.F a from upd_ne e]
    exact h5
  exc := fun i c fs h => by
    obtain ⟨a, dx, h1, h2, h3⟩ := r.exc i c fs h
    exact ⟨a, dx, h1, h2, h3.add m hq o⟩
  is := r.is
  inj := r.inj
theorem RM.addE (m : RM K g H ms) {q : Addr} (hq : H q = none) (o : HO) : Ext g H (g.add q o) (upd H q o) where
  fr := m.addUp hq o
  ph := ⟨[], by simp [G.add]⟩
  new := fun _ h => .inl h
  fnew := fun a u h => by
    by_cases e : a = q
    · subst e
      exact .inr (.inl hq)
    · rw [show (g.add q o).F a = g.F a from upd_ne e] at h
      exact .inl h
  nom := fun i a h => .inl ⟨i, h⟩
  there := fun b u h => by
    by_cases e : b = q
    · subst e
      exact ⟨o, upd_same⟩
    · exact ⟨u, by rw [upd_ne e]; exact h⟩
  keep := fun b u h _ _ => by rw [upd_ne (ne_of_none h hq)]; exact h
theorem RS.add (r : RS p g σ H s) {q : Addr} (hq : H q = none) (o : HO) (ho : ∀ ps, o ≠ .tbl ps := by intro _ z; cases z) : RS p (g.add q o) σ (upd H q o) s :=
  r.go (r.m.addE hq o).s (r.m.add hq o ho) (RF.add r.m r.f hq o) (r.tabs.ext fun b u h => by rw [upd_ne (ne_of_none h hq)]; exact h)
theorem RS.addE (r : RS p g σ H s) {q : Addr} (hq : H q = none) (o : HO) : Ext g H (g.add q o) (upd H q o) := r.m.addE hq o
/-! ### a list becomes frozen -/
def G.fz (g : G) (a : Addr) (vs : List V) : G := { g with F := upd g.F a (.lst vs) }
theorem fz_up {a : Addr} {vs : List V} (hf : g.F a = none) : ∀ b u, g.F b = some u → (g.fz a vs).F b = some u := fun b u q => by
  have e : b ≠ a := fun e => by rw [e, hf] at q; cases q
  rw [show (g.fz a vs).F b = g.F b from upd_ne e]
  exact q
theorem RM.fz {a : Addr} {vs : List V} (m : RM K g H ms) (ha : H a = some (.lst vs)) (hf : g.F a = none) (hp : a ∉ g.φ) : RM K (g.fz a vs) H ms where
  sub := fun b u q => by
    by_cases e : b = a
    · subst e
      rw [show (g.fz b vs).F b = some (.lst vs) from upd_same] at q
      cases q
      exact ha
    · rw [show (g.fz a vs).F b = g.F b from upd_ne e] at q
      exact m.sub b u q
  mlen := m.mlen
  mem := fun n b ds q1 q2 => by
    obtain ⟨ws, z1, z2, z3⟩ := m.mem n b ds q1 q2
    have ne : b ≠ a := fun z => hp (by rw [← z]; exact List.mem_of_getElem? q1)
    refine ⟨ws, z1, RVs.up (fz_up hf) ⟨[], by simp [G.fz]⟩ _ _ z2, ?_⟩
    rw [show (g.fz a vs).F b = g.F b from upd_ne ne]
    exact z3
  nod := m.nod
  nt := fun b ps q => by
    by_cases e : b = a
    · rw [e, show (g.fz a vs).F a = some (.lst vs) from upd_same] at q
      cases q
    · rw [show (g.fz a vs).F b = g.F b from upd_ne e] at q
      exact m.nt b ps q
theorem REx.fz {a : Addr} {vs : List V} {fs : List (Str × D)} {dx : Option Addr} (hf : g.F a = none) (h : REx K g H fs dx) : REx K (g.fz a vs) H fs dx := by
  cases dx with
  | none => exact h
  | some d =>
    obtain ⟨vs, h1, h2, h3, h4⟩ := h
    exact ⟨vs, h1, RVs.up (fz_up hf) ⟨[], by simp [G.fz]⟩ _ _ h2, h3, h4⟩
theorem RF.fz {a : Addr} {vs : List V} (r : RF K xc g σ H env) (hf : g.F a = none) (ho : ∀ j, g.ω j ≠ some a) : RF K xc (g.fz a vs) σ H env where
  len := r.len
  env := fun j d q => by
    obtain ⟨v, q1, q2⟩ := r.env j d q
    exact ⟨v, q1, RV.up (fz_up hf) ⟨[], by simp [G.fz]⟩ _ _ q2⟩
  own := fun j ds q => by
    obtain ⟨b, ws, q1, q2, q3, q4, q5, q6⟩ := r.own j ds q
    have ne : b ≠ a := fun z => ho j (by rw [← z]; exact q1)
    refine ⟨b, ws, q1, q2, q3, RVs.up (fz_up hf) ⟨[], by simp [G.fz]⟩ _ _ q4, ?_, q6⟩
    rw [show (g.fz a vs).F b = g.F b from upd_ne ne]
    exact q5
  exc := fun i c fs h => by
    obtain ⟨a, dx, h1, h2, h3⟩ := r.exc i c fs h
    exact ⟨a, dx, h1, h2, h3.fz hf⟩
  is := r.is
  inj := r.inj
theorem Ext.fz {g0 : G} {H0 : Hp} {a : Addr} {vs : List V} (e : Ext g0 H0 g H) (hf : g.F a = Option.none) (hn : H0 a = Option.none) : Ext g0 H0 (g.fz a vs) H where
  fr := fun b u q => fz_up hf b u (e.fr b u q)
  ph := e.ph
  new := e.new
  fnew := fun b u q => by
    by_cases z : b = a
    · subst z
      exact .inr (.inl hn)
    · rw [show (g.fz a vs).F b = g.F b from upd_ne z] at q
      exact e.fnew b u q
  nom := e.nom
  there := e.there
  keep := e.keep
theorem RS.fz {a : Addr} {vs : List V} {g0 : G} {H0 : Hp} {s0 : S} (r0 : RS p g0 σ H0 s0) (r : RS p g σ H s) (e : Ext g0 H0 g H) (hn : H0 a = none) (ha : H a = some (.lst vs)) (hf : g.F a = none) (hp : a ∉ g.φ) (ho : ∀ j, g.ω j ≠ some a) : RS p (g.fz a vs) σ H s :=
  r0.go (e.fz hf hn).s (r.m.fz ha hf hp) (r.f.fz hf ho) r.tabs
/-! ### slots -/
def getv (i : Nat) : M D := fun s => match s.env[i]? with
  | some (.val d) => .ok d s
  | some (.own xs) => .ok (.lst xs) { s with env := s.env.set i (.val (.lst xs)) }
  | _ => .stuck
/-- read, not kept -/
def peekv (i : Nat) : M D := fun s => match s.env[i]? with
  | some (.val d) => .ok d s
  | some (.own xs) => .ok (.lst xs) s
  | _ => .stuck
def setv (i : Nat) (d : D) : M Unit := fun s => if i < s.env.length then .ok () { s with env := s.env.set i (.val d) } else .stuck
/-- the list of slot i is frozen -/
def G.frz (g : G) (i : Nat) (a : Addr) (vs : List V) : G := { g with F := upd g.F a (.lst vs), ω := fun j => if j = i then none else g.ω j }
theorem frz_up {i : Nat} {a : Addr} {vs : List V} (hf : g.F a = none) : ∀ b u, g.F b = some u → (g.frz i a vs).F b = some u := fun b u q => by
  have e : b ≠ a := fun e => by rw [e, hf] at q; cases q
  rw [show (g.frz i a vs).F b = g.F b from upd_ne e]
  exact q
theorem frz_om {i j : Nat} {a b : Addr} {vs : List V} (h : (g.frz i a vs).ω j = some b) : j ≠ i ∧ g.ω j = some b := by
  have q : (if j = i then none else g.ω j) = some b := h
  split at q
  · cases q
  · exact ⟨by assumption, q⟩
theorem REx.frz {i : Nat} {a : Addr} {vs : List V} {fs : List (Str × D)} {dx : Option Addr} (hf : g.F a = none) (h : REx K g H fs dx) : REx K (g.frz i a vs) H fs dx := by
  cases dx with
  | none => exact h
  | some d =>
    obtain ⟨vs, h1, h2, h3, h4⟩ := h
    exact ⟨vs, h1, RVs.up (frz_up hf) ⟨[], by simp [G.frz]⟩ _ _ h2, h3, fun j q => h4 j (frz_om q).2⟩
theorem RF.frz (r : RF K xc g σ H env) {i : Nat} {xs : List D} (h : env[i]? = some (Sl.own xs)) {a : Addr} {vs : List V} (h1 : g.ω i = some a) (h2 : σ[i]? = some (some (.ref a))) (h3 : H a = some (.lst vs)) (h4 : RVs K g.F g.φ xs vs)
    (h5 : g.F a = none) : RF K xc (g.frz i a vs) σ H (env.set i (.val (.lst xs))) := by
  have hi : i < env.length := (List.getElem?_eq_some_iff.mp h).1
  refine ⟨by rw [List.length_set]; exact r.len, fun j d q => ?_, fun j ds q => ?_, fun j c fs q => ?_, fun j b q => ?_, fun j k b q1 q2 => r.inj j k b (frz_om q1).2 (frz_om q2).2⟩
  · by_cases e : i = j
    · subst e
      rw [List.getElem?_set_self hi] at q
      cases q
      exact ⟨_, h2, .lst upd_same (RVs.up (frz_up h5) ⟨[], by simp [G.frz]⟩ _ _ h4)⟩
    · rw [List.getElem?_set_ne e] at q
      obtain ⟨v, q1, q2⟩ := r.env j d q
      exact ⟨v, q1, RV.up (frz_up h5) ⟨[], by simp [G.frz]⟩ _ _ q2⟩
  · by_cases e : i = j
    · subst e
      rw [List.getElem?_set_self hi] at q
      cases q
    · rw [List.getElem?_set_ne e] at q
      obtain ⟨b, ws, q1, q2, q3, q4, q5, q6⟩ := r.own j ds q
      have ne : b ≠ a := fun z => e (r.inj i j a h1 (by rw [← z]; exact q1))
      refine ⟨b, ws, ?_, q2, q3, RVs.up (frz_up h5) ⟨[], by simp [G.frz]⟩ _ _ q4, ?_, q6⟩
      · show (if j = i then none else g.ω j) = some b
        rw [if_neg (Ne.symm e)]
        exact q1
      · rw [show (g.frz i a vs).F b = g.F b from upd_ne ne]
        exact q5
  · by_cases e : i = j
    · subst e
      rw [List.getElem?_set_self hi] at q
      cases q
    · rw [List.getElem?_set_ne e] at q
      obtain ⟨b, dx, q1, q2, q3⟩ := r.exc j c fs q
      exact ⟨b, dx, q1, q2, q3.frz h5⟩
  · obtain ⟨e, q'⟩ := frz_om q
    obtain ⟨ds, z⟩ := r.is j b q'
    exact ⟨ds, by rw [List.getElem?_set_ne (Ne.symm e)]; exact z⟩
theorem RM.frz (m : RM K g H ms) {i : Nat} {a : Addr} {vs : List V} (h3 : H a = some (.lst vs)) (h5 : g.F a = none) (h6 : a ∉ g.φ) : RM K (g.frz i a vs) H ms where
  sub := (m.fz h3 h5 h6).sub
  mlen := m.mlen
  mem := (m.fz h3 h5 h6).mem
  nod := m.nod
  nt := (m.fz h3 h5 h6).nt
theorem G.frzE (g : G) (H : Hp) {i : Nat} {a : Addr} {vs : List V} (h1 : g.ω i = some a) (h5 : g.F a = none) : Ext g H (g.frz i a vs) H where
  fr := frz_up h5
  ph := ⟨[], by simp [G.frz]⟩
  new := fun _ h => .inl h
  fnew := fun b u h => by
    by_cases e : b = a
    · subst e
      exact .inr (.inr (.inl ⟨i, h1⟩))
    · rw [show (g.frz i a vs).F b = g.F b from upd_ne e] at h
      exact .inl h
  nom := fun j b h => .inl ⟨j, (frz_om h).2⟩
  there := fun b u h => ⟨u, h⟩
  keep := fun b u h _ _ => h
theorem RS.frz (r : RS p g σ H s) {i : Nat} {xs : List D} (h : s.env[i]? = some (Sl.own xs)) {a : Addr} {vs : List V} (h1 : g.ω i = some a) (h2 : σ[i]? = some (some (.ref a))) (h3 : H a = some (.lst vs)) (h4 : RVs K g.F g.φ xs vs)
    (h5 : g.F a = none) (h6 : a ∉ g.φ) : RS p (g.frz i a vs) σ H { s with env := s.env.set i (.val (.lst xs)) } :=
  r.go (s' := { s with env := s.env.set i (.val (.lst xs)) }) (g.frzE H h1 h5).s (r.m.frz h3 h5 h6) (r.f.frz h h1 h2 h3 h4 h5) r.tabs
/-- a slot set to a value -/
def G.drop (g : G) (i : Nat) : G := { g with ω := fun j => if j = i then none else g.ω j }
theorem drop_om {i j : Nat} {b : Addr} (h : (g.drop i).ω j = some b) : j ≠ i ∧ g.ω j = some b := by
  have q : (if j = i then none else g.ω j) = some b := h
  split at q
  · cases q
  · exact ⟨by assumption, q⟩
theorem REx.drop {i : Nat} {fs : List (Str × D)} {dx : Option Addr} (h : REx K g H fs dx) : REx K (g.drop i) H fs dx := by
  cases dx with
  | none => exact h
  | some d =>
    obtain ⟨vs, h1, h2, h3, h4⟩ := h
    exact ⟨vs, h1, h2, h3, fun j q => h4 j (drop_om q).2⟩
/-- slot i is set anew: what stands there is told by hs -/
theorem RF.put (r : RF K xc g σ H env) {i : Nat} (hi : i < env.length) {sl : Sl} {o : Option V} (hs : (sl = .un) ∨ (∃ d v, sl = .val d ∧ o = some v ∧ RV K g.F g.φ d v) ∨ ∃ c fs a dx, sl = .exc c fs ∧ o = some (.ref a) ∧ xc = some (a, K.tr c, dx) ∧ REx K g H fs dx) :
    RF K xc (g.drop i) (σ.set i o) H (env.set i sl) := by
  have hi' : i < σ.length := by rw [← r.len]; exact hi
  refine ⟨by rw [List.length_set, List.length_set]; exact r.len, fun j e q => ?_, fun j ds q => ?_, fun j c fs q => ?_, fun j b q => ?_, fun j k b q1 q2 => r.inj j k b (drop_om q1).2 (drop_om q2).2⟩
  · by_cases e : i = j
    · subst e
      rw [List.getElem?_set_self hi] at q
      rcases hs with hs | ⟨d, v, hs, ho, hv⟩ | ⟨c, fs, a, dx, hs, ho, h1, h2⟩
      · rw [hs] at q
        cases q
      · rw [hs] at q
        cases q
        exact ⟨v, by rw [List.getElem?_set_self hi', ho], hv⟩
      · rw [hs] at q
        cases q
    · rw [List.getElem?_set_ne e] at q
      obtain ⟨u, q1, q2⟩ := r.env j _ q
      exact ⟨u, by rw [List.getElem?_set_ne e]; exact q1, q2⟩
  · by_cases e : i = j
    · subst e
      rw [List.getElem?_set_self hi] at q
      rcases hs with hs | ⟨d, v, hs, ho, hv⟩ | ⟨c, fs, a, dx, hs, ho, h1, h2⟩ <;> (rw [hs] at q; cases q)
    · rw [List.getElem?_set_ne e] at q
      obtain ⟨b, ws, q1, q2, q3, q4, q5, q6⟩ := r.own j ds q
      refine ⟨b, ws, ?_, by rw [List.getElem?_set_ne e]; exact q2, q3, q4, q5, q6⟩
      show (if j = i then none else g.ω j) = some b
      rw [if_neg (Ne.symm e)]
      exact q1
  · by_cases e : i = j
    · subst e
      rw [List.getElem?_set_self hi] at q
      rcases hs with hs | ⟨d, v, hs, ho, hv⟩ | ⟨c', fs', a, dx, hs, ho, h1, h2⟩
      · rw [hs] at q
        cases q
      · rw [hs] at q
        cases q
      · rw [hs] at q
        cases q
        exact ⟨a, dx, h1, by rw [List.getElem?_set_self hi', ho], h2.drop⟩
    · rw [List.getElem?_set_ne e] at q
      obtain ⟨b, dx, q1, q2, q3⟩ := r.exc j c fs q
      exact ⟨b, dx, q1, by rw [List.getElem?_set_ne e]; exact q2, q3.drop⟩
  · obtain ⟨e, q'⟩ := drop_om q
    obtain ⟨ds, z⟩ := r.is j b q'
    exact ⟨ds, by rw [List.getElem?_set_ne (Ne.symm e)]; exact z⟩
theorem RM.drop (m : RM K g H ms) {i : Nat} : RM K (g.drop i) H ms := ⟨m.sub, m.mlen, m.mem, m.nod, m.nt⟩
theorem G.dropE (g : G) (H : Hp) (i : Nat) : Ext g H (g.drop i) H where
  fr := fun _ _ h => h
  ph := ⟨[], by simp [G.drop]⟩
  new := fun _ h => .inl h
  fnew := fun _ _ h => .inl h
  nom := fun j b h => .inl ⟨j, (drop_om h).2⟩
  there := fun b u h => ⟨u, h⟩
  keep := fun b u h _ _ => h
theorem RS.setv (r : RS p g σ H s) {i : Nat} (hi : i < s.env.length) {d : D} {v : V} (rv : RV K g.F g.φ d v) : RS p (g.drop i) (σ.set i (some v)) H { s with env := s.env.set i (.val d) } :=
  r.go (s' := { s with env := s.env.set i (.val d) }) (g.dropE H i).s r.m.drop (r.f.put hi (.inr (.inl ⟨d, v, rfl, rfl, rv⟩))) r.tabs
theorem RS.unset (r : RS p g σ H s) {i : Nat} (hi : i < s.env.length) {o : Option V} : RS p (g.drop i) (σ.set i o) H { s with env := s.env.set i .un } :=
  r.go (s' := { s with env := s.env.set i .un }) (g.dropE H i).s r.m.drop (r.f.put hi (.inl rfl)) r.tabs
/-- a slot set to a list of its own -/
def setown (i : Nat) (xs : List D) : M Unit := fun s => if i < s.env.length then .ok () { s with env := s.env.set i (.own xs) } else .stuck
def G.take (g : G) (i : Nat) (a : Addr) : G := { g with ω := fun j => if j = i then some a else g.ω j }
theorem take_om {i j : Nat} {a b : Addr} (h : (g.take i a).ω j = some b) : (j = i ∧ a = b) ∨ (j ≠ i ∧ g.ω j = some b) := by
  have q : (if j = i then some a else g.ω j) = some b := h
  split at q
  · exact .inl ⟨by assumption, Option.some.inj q⟩
  · exact .inr ⟨by assumption, q⟩
theorem REx.take {i : Nat} {a : Addr} {vs : List V} {fs : List (Str × D)} {dx : Option Addr} (ha : H a = some (.lst vs)) (h : REx K g H fs dx) : REx K (g.take i a) H fs dx := by
  cases dx with
  | none => exact h
  | some d =>
    obtain ⟨ws, h1, h2, h3, h4⟩ := h
    refine ⟨ws, h1, h2, h3, fun j q => ?_⟩
    rcases take_om q with ⟨_, e⟩ | ⟨_, q⟩
    · rw [e, h1] at ha
      cases ha
    · exact h4 j q
theorem RF.setown (r : RF K xc g σ H env) {i : Nat} (hi : i < env.length) {xs : List D} {vs : List V} {a : Addr} (h3 : H a = some (.lst vs)) (h4 : RVs K g.F g.φ xs vs) (h5 : g.F a = none) (h6 : a ∉ g.φ) (h7 : ∀ j, g.ω j ≠ some a) :
    RF K xc (g.take i a) (σ.set i (some (.ref a))) H (env.set i (.own xs)) := by
  have hi' : i < σ.length := by rw [← r.len]; exact hi
  refine ⟨by rw [List.length_set, List.length_set]; exact r.len, fun j e q => ?_, fun j ds q => ?_, fun j c fs q => ?_, fun j b q => ?_, fun j k b q1 q2 => ?_⟩
  · by_cases e : i = j
    · subst e
      rw [List.getElem?_set_self hi] at q
      cases q
    · rw [List.getElem?_set_ne e] at q
      obtain ⟨u, q1, q2⟩ := r.env j _ q
      exact ⟨u, by rw [List.getElem?_set_ne e]; exact q1, q2⟩
  · by_cases e : i = j
    · subst e
      rw [List.getElem?_set_self hi] at q
      cases q
      refine ⟨a, vs, ?_, List.getElem?_set_self hi', h3, h4, h5, h6⟩
      show (if i = i then some a else g.ω i) = some a
      rw [if_pos rfl]
    · rw [List.getElem?_set_ne e] at q
      obtain ⟨b, ws, q1, q2, q3, q4, q5, q6⟩ := r.own j ds q
      refine ⟨b, ws, ?_, by rw [List.getElem?_set_ne e]; exact q2, q3, q4, q5, q6⟩
      show (if j = i then some a else g.ω j) = some b
      rw [if_neg (Ne.symm e)]
      exact q1
  · by_cases e : i = j
    · subst e
      rw [List.getElem?_set_self hi] at q
      cases q
    · rw [List.getElem?_set_ne e] at q
      obtain ⟨b, dx, q1, q2, q3⟩ := r.exc j c fs q
      exact ⟨b, dx, q1, by rw [List.getElem?_set_ne e]; exact q2, q3.take h3⟩
  · rcases take_om q with ⟨e, _⟩ | ⟨e, q'⟩
    · subst e
      exact ⟨xs, List.getElem?_set_self hi⟩
    · obtain ⟨ds, z⟩ := r.is j b q'
      exact ⟨ds, by rw [List.getElem?_set_ne (Ne.symm e)]; exact z⟩
  · rcases take_om q1 with ⟨e1, z1⟩ | ⟨e1, z1⟩
    · rcases take_om q2 with ⟨e2, z2⟩ | ⟨e2, z2⟩
      · rw [e1, e2]
      · rw [← z1] at z2
        exact absurd z2 (h7 k)
    · rcases take_om q2 with ⟨e2, z2⟩ | ⟨e2, z2⟩
      · rw [← z2] at z1
        exact absurd z1 (h7 j)
      · exact r.inj j k b z1 z2
theorem ExtS.take {g0 : G} {H0 : Hp} (e : ExtS g0 H0 g H) {i : Nat} {a : Addr} {us : List V} (hn : H0 a = Option.none) (hl : H a = some (.lst us)) : ExtS g0 H0 (g.take i a) H where
  fr := e.fr
  ph := e.ph
  new := e.new
  fnew := fun b o z => (e.fnew b o z).imp (fun z => z) fun z => z.imp (fun z => z) fun z => z.imp (fun z => z) fun ⟨w, z1, z2, z3, z4⟩ => ⟨w, z1, z2, z3, fun j y => by
    rcases take_om y with ⟨_, y⟩ | ⟨_, y⟩
    · rw [← y, hl] at z2
      exact lst_ne_co z2
    · exact z4 j y⟩
  nom := fun j b h => by
    rcases take_om h with ⟨_, z⟩ | ⟨_, z⟩
    · rw [← z]
      exact .inr hn
    · exact e.nom j b z
  there := e.there
  keep := e.keep
theorem RM.take (m : RM K g H ms) {i : Nat} {a : Addr} : RM K (g.take i a) H ms := ⟨m.sub, m.mlen, m.mem, m.nod, m.nt⟩
/-- a new list goes into a slot -/
theorem RS.setown {g0 : G} {H0 : Hp} {s0 : S} (r0 : RS p g0 σ H0 s0) (r : RS p g σ H s) (e : ExtS g0 H0 g H) {i : Nat} (hi : i < s.env.length) {xs : List D} {vs : List V} {a : Addr} (h3 : H a = some (.lst vs)) (h4 : RVs K g.F g.φ xs vs)
    (h5 : g.F a = none) (h6 : a ∉ g.φ) (h7 : ∀ j, g.ω j ≠ some a) (hn : H0 a = none) : RS p (g.take i a) (σ.set i (some (.ref a))) H { s with env := s.env.set i (.own xs) } :=
  r0.go (s' := { s with env := s.env.set i (.own xs) }) (e.take hn h3) r.m.take (r.f.setown hi h3 h4 h5 h6 h7) r.tabs
/-- a slot's own list is written -/
theorem RM.ownw (m : RM K g H ms) {a : Addr} {vs : List V} {o : HO} (h3 : H a = some (.lst vs)) (h5 : g.F a = none) (h6 : a ∉ g.φ) : RM K g (upd H a o) ms where
  sub := fun b u q => by
    have e : b ≠ a := fun e => by rw [e, h5] at q; cases q
    rw [upd_ne e]
    exact m.sub b u q
  mlen := m.mlen
  mem := fun n b ds q1 q2 => by
    obtain ⟨ws, z1, z2, z3⟩ := m.mem n b ds q1 q2
    have ne : b ≠ a := fun z => h6 (by rw [← z]; exact List.mem_of_getElem? q1)
    exact ⟨ws, by rw [upd_ne ne]; exact z1, z2, z3⟩
  nod := m.nod
  nt := m.nt
theorem REx.ownw {a : Addr} {o : HO} {fs : List (Str × D)} {dx : Option Addr} {i : Nat} (h1 : g.ω i = some a) (h : REx K g H fs dx) : REx K g (upd H a o) fs dx := by
  cases dx with
  | none => exact h
  | some d =>
    obtain ⟨vs, z1, z2, z3, z4⟩ := h
    exact ⟨vs, by rw [upd_ne (fun z => z4 i (by rw [z]; exact h1))]; exact z1, z2, z3, z4⟩
theorem RF.ownw (r : RF K xc g σ H env) {i : Nat} {xs ys : List D} (h : env[i]? = some (Sl.own xs)) {a : Addr} {ws : List V} (h1 : g.ω i = some a) (h2 : σ[i]? = some (some (.ref a)))
    (h4 : RVs K g.F g.φ ys ws) (h5 : g.F a = none) (h6 : a ∉ g.φ) : RF K xc g σ (upd H a (.lst ws)) (env.set i (.own ys)) := by
  have hi : i < env.length := (List.getElem?_eq_some_iff.mp h).1
  refine ⟨by rw [List.length_set]; exact r.len, fun j d q => ?_, fun j ds q => ?_, fun j c fs q => ?_, fun j b q => ?_, r.inj⟩
  · by_cases e : i = j
    · subst e
      rw [List.getElem?_set_self hi] at q
      cases q
    · rw [List.getElem?_set_ne e] at q
      exact r.env j d q
  · by_cases e : i = j
    · subst e
      rw [List.getElem?_set_self hi] at q
      cases q
      exact ⟨a, ws, h1, h2, upd_same, h4, h5, h6⟩
    · rw [List.getElem?_set_ne e] at q
      obtain ⟨b, vs, q1, q2, q3, q4, q5, q6⟩ := r.own j ds q
      have ne : b ≠ a := fun z => e (r.inj i j a h1 (by rw [← z]; exact q1))
      exact ⟨b, vs, q1, q2, by rw [upd_ne ne]; exact q3, q4, q5, q6⟩
  · by_cases e : i = j
    · subst e
      rw [List.getElem?_set_self hi] at q
      cases q
    · rw [List.getElem?_set_ne e] at q
      obtain ⟨b, dx, q1, q2, q3⟩ := r.exc j c fs q
      exact ⟨b, dx, q1, q2, q3.ownw h1⟩
  · by_cases e : j = i
    · subst e
      exact ⟨ys, List.getElem?_set_self hi⟩
    · obtain ⟨ds, z⟩ := r.is j b q
      exact ⟨ds, by rw [List.getElem?_set_ne (Ne.symm e)]; exact z⟩
theorem G.ownE (g : G) {H : Hp} {i : Nat} {a : Addr} {o : HO} (h1 : g.ω i = some a) : ExtS g H g (upd H a o) where
  fr := fun _ _ h => h
  ph := ⟨[], by simp⟩
  new := fun _ h => .inl h
  fnew := fun _ _ h => .inl h
  nom := fun j b h => .inl ⟨j, h⟩
  there := fun b u h => by
    by_cases e : b = a
    · subst e
      exact ⟨o, upd_same⟩
    · exact ⟨u, by rw [upd_ne e]; exact h⟩
  keep := fun b u h _ w _ => by
    rw [upd_ne (fun z => w i (by rw [z]; exact h1))]
    exact h
theorem RS.ownw (r : RS p g σ H s) {i : Nat} {xs ys : List D} (h : s.env[i]? = some (Sl.own xs)) {a : Addr} {vs ws : List V} (h1 : g.ω i = some a) (h2 : σ[i]? = some (some (.ref a))) (h3 : H a = some (.lst vs))
    (h4 : RVs K g.F g.φ ys ws) (h5 : g.F a = none) (h6 : a ∉ g.φ) : RS p g σ (upd H a (.lst ws)) { s with env := s.env.set i (.own ys) } :=
  r.go (s' := { s with env := s.env.set i (.own ys) }) (g.ownE h1) (r.m.ownw h3 h5 h6) (r.f.ownw h h1 h2 h4 h5 h6) (tabs_upd r.tabs fun o q => by
    rw [h3] at q
    cases q
    exact ⟨fun _ z => (nomatch z), fun _ z => (nomatch z)⟩)
/-- an identity list is written -/
theorem RM.refw (m : RM K g H ms) {n : Nat} {a : Addr} {xs ys : List D} {ws : List V} (hn : g.φ[n]? = some a) (hx : ms[n]? = some xs) (h4 : RVs K g.F g.φ ys ws) : RM K g (upd H a (.lst ws)) (ms.set n ys) where
  sub := fun b u q => by
    obtain ⟨vs, z1, z2, z3⟩ := m.mem n a xs hn hx
    have e : b ≠ a := fun e => by rw [e, z3] at q; cases q
    rw [upd_ne e]
    exact m.sub b u q
  mlen := by rw [List.length_set]; exact m.mlen
  mem := fun k b ds q1 q2 => by
    have hlt : n < ms.length := (List.getElem?_eq_some_iff.mp hx).1
    by_cases e : n = k
    · subst e
      rw [hn] at q1
      cases q1
      rw [List.getElem?_set_self hlt] at q2
      cases q2
      obtain ⟨vs, z1, z2, z3⟩ := m.mem n a xs hn hx
      exact ⟨ws, upd_same, h4, z3⟩
    · rw [List.getElem?_set_ne e] at q2
      obtain ⟨vs, z1, z2, z3⟩ := m.mem k b ds q1 q2
      have ne : b ≠ a := fun z => by
        subst z
        obtain ⟨i1, j1⟩ := List.getElem?_eq_some_iff.mp hn
        obtain ⟨i2, j2⟩ := List.getElem?_eq_some_iff.mp q1
        exact e ((List.getElem_inj m.nod).mp (j1.trans j2.symm))
      exact ⟨vs, by rw [upd_ne ne]; exact z1, z2, z3⟩
  nod := m.nod
  nt := m.nt
theorem REx.refw {a : Addr} {o : HO} {fs : List (Str × D)} {dx : Option Addr} (h1 : a ∈ g.φ) (h : REx K g H fs dx) : REx K g (upd H a o) fs dx := by
  cases dx with
  | none => exact h
  | some d =>
    obtain ⟨vs, z1, z2, z3, z4⟩ := h
    exact ⟨vs, by rw [upd_ne (fun z => z3 (by rw [z]; exact h1))]; exact z1, z2, z3, z4⟩
theorem RF.refw (r : RF K xc g σ H env) {a : Addr} {o : HO} (h1 : a ∈ g.φ) : RF K xc g σ (upd H a o) env where
  len := r.len
  env := r.env
  own := fun j ds q => by
    obtain ⟨b, vs, q1, q2, q3, q4, q5, q6⟩ := r.own j ds q
    exact ⟨b, vs, q1, q2, by rw [upd_ne (fun z => q6 (by rw [z]; exact h1))]; exact q3, q4, q5, q6⟩
  exc := fun j c fs q => by
    obtain ⟨b, dx, q1, q2, q3⟩ := r.exc j c fs q
    exact ⟨b, dx, q1, q2, q3.refw h1⟩
  is := r.is
  inj := r.inj
theorem G.refE (g : G) {H : Hp} {a : Addr} {o : HO} (h1 : a ∈ g.φ) : Ext g H g (upd H a o) where
  fr := fun _ _ h => h
  ph := ⟨[], by simp⟩
  new := fun _ h => .inl h
  fnew := fun _ _ h => .inl h
  nom := fun j b h => .inl ⟨j, h⟩
  there := fun b u h => by
    by_cases e : b = a
    · subst e
      exact ⟨o, upd_same⟩
    · exact ⟨u, by rw [upd_ne e]; exact h⟩
  keep := fun b u h w _ => by
    rw [upd_ne (fun z => w (by rw [z]; exact h1))]
    exact h
theorem RS.refw (r : RS p g σ H s) {n : Nat} {a : Addr} {xs ys : List D} {ws : List V} (hn : g.φ[n]? = some a) (hx : s.ms[n]? = some xs) (h4 : RVs K g.F g.φ ys ws) : RS p g σ (upd H a (.lst ws)) { s with ms := s.ms.set n ys } :=
  r.go (s' := { s with ms := s.ms.set n ys }) (g.refE (List.mem_of_getElem? hn)).s (r.m.refw hn hx h4) (r.f.refw (List.mem_of_getElem? hn)) (tabs_upd r.tabs fun o q => by
    obtain ⟨vs, z1, _⟩ := r.m.mem n a xs hn hx
    rw [z1] at q
    cases q
    exact ⟨fun _ z => (nomatch z), fun _ z => (nomatch z)⟩)
/-- a new list becomes an identity list -/
def G.ph (g : G) (a : Addr) : G := { g with φ := g.φ ++ [a] }
theorem RS.newref {g0 : G} {H0 : Hp} {s0 : S} (r0 : RS p g0 σ H0 s0) (r : RS p g σ H s) (e : ExtS g0 H0 g H) {xs : List D} {vs : List V} {a : Addr} (h3 : H a = some (.lst vs)) (h4 : RVs K g.F g.φ xs vs)
    (h5 : g.F a = none) (h6 : a ∉ g.φ) (h7 : ∀ j, g.ω j ≠ some a) (hn : H0 a = none) : RS p (g.ph a) σ H { s with ms := s.ms ++ [xs] } ∧ ExtS g0 H0 (g.ph a) H := by
  have up : ∀ b u, g.F b = some u → (g.ph a).F b = some u := fun _ _ h => h
  have e' : ExtS g0 H0 (g.ph a) H := by
    refine ⟨e.fr, ?_, fun b hb => ?_, fun b o z => (e.fnew b o z).imp (fun z => z) fun z => z.imp (fun z => z) fun z => z.imp (fun z => z) fun ⟨w, z1, z2, z3, z4⟩ => ⟨w, z1, z2, fun y => ?_, z4⟩, e.nom, e.there, e.keep⟩
    rotate_left 2
    · rcases List.mem_append.mp (show b ∈ g.φ ++ [a] from y) with y | y
      · exact z3 y
      · have e2 : b = a := by simpa using y
        rw [e2, h3] at z2
        exact lst_ne_co z2
    · obtain ⟨m, z⟩ := e.ph
      exact ⟨m ++ [a], by show g.φ ++ [a] = _; rw [z, List.append_assoc]⟩
    · rcases List.mem_append.mp (show b ∈ g.φ ++ [a] from hb) with z | z
      · exact e.new b z
      · have : b = a := by simpa using z
        rw [this]
        exact .inr hn
  refine ⟨r0.go (s' := { s with ms := s.ms ++ [xs] }) e' ⟨r.m.sub, ?_, fun n b ds q1 q2 => ?_, ?_, r.m.nt⟩ ⟨r.f.len, fun i d q => ?_, fun i ds q => ?_, fun i c fs q => ?_, r.f.is, r.f.inj⟩ r.tabs, e'⟩
  · show (s.ms ++ [xs]).length = (g.φ ++ [a]).length
    rw [List.length_append, List.length_append, r.m.mlen]
    rfl
  · have q1 : (g.φ ++ [a])[n]? = some b := q1
    have q2 : (s.ms ++ [xs])[n]? = some ds := q2
    by_cases hlt : n < g.φ.length
    · rw [List.getElem?_append_left hlt] at q1
      rw [List.getElem?_append_left (by rw [r.m.mlen]; exact hlt)] at q2
      obtain ⟨ws, z1, z2, z3⟩ := r.m.mem n b ds q1 q2
      exact ⟨ws, z1, RVs.up up ⟨[a], rfl⟩ _ _ z2, z3⟩
    · have hl : n < (g.φ ++ [a]).length := (List.getElem?_eq_some_iff.mp q1).1
      have en : n = g.φ.length := by
        rw [List.length_append] at hl
        simp only [List.length_cons, List.length_nil] at hl
        omega
      subst en
      have e1 : a = b := by simpa using q1
      have e2 : xs = ds := by
        rw [← r.m.mlen] at q2
        simpa using q2
      subst e1 e2
      exact ⟨vs, h3, RVs.up up ⟨[a], rfl⟩ _ _ h4, h5⟩
  · show (g.φ ++ [a]).Nodup
    rw [List.nodup_append]
    exact ⟨r.m.nod, by simp, fun x hx y hy z => h6 (by
      have : y = a := by simpa using hy
      rw [← this, ← z]
      exact hx)⟩
  · obtain ⟨v, q1, q2⟩ := r.f.env i d q
    exact ⟨v, q1, RV.up up ⟨[a], rfl⟩ _ _ q2⟩
  · obtain ⟨b, ws, q1, q2, q3, q4, q5, q6⟩ := r.f.own i ds q
    refine ⟨b, ws, q1, q2, q3, RVs.up up ⟨[a], rfl⟩ _ _ q4, q5, fun z => ?_⟩
    rcases List.mem_append.mp (show b ∈ g.φ ++ [a] from z) with z | z
    · exact q6 z
    · have : b = a := by simpa using z
      rw [this] at q1
      exact h7 i q1
  · obtain ⟨b, dx, q1, q2, q3⟩ := r.f.exc i c fs q
    refine ⟨b, dx, q1, q2, ?_⟩
    cases dx with
    | none => exact q3
    | some d =>
      obtain ⟨ws, z1, z2, z3, z4⟩ := q3
      refine ⟨ws, z1, RVs.up up ⟨[a], rfl⟩ _ _ z2, fun z => ?_, z4⟩
      rcases List.mem_append.mp (show d ∈ g.φ ++ [a] from z) with z | z
      · exact z3 z
      · have : d = a := by simpa using z
        rw [this, h3] at z1
        cases z1
end
theorem RVp.ext {K : Kx} {g g' : G} {H H' : Hp} {d : D} {v : V} (e : Ext g H g' H') (r : RVp K g H d v) : RVp K g' H' d v := by
  rcases r with r | ⟨a, vs, ds, h1, h2, h3, h4, h5⟩
  · exact .inl (e.rv r)
  · refine .inr ⟨a, vs, ds, h1, h2, e.keep _ _ h3 h5 (fun _ z => by cases z), e.rvs h4, fun h => ?_⟩
    rcases e.new a h with z | z
    · exact h5 z
    · rw [z] at h3
      cases h3
end Mp

set_option Elab.async false
set_option linter.all false
set_option maxRecDepth 100000
set_option maxHeartbeats 4000000
namespace Mp
open PySem PySem.Spec L2
open PyProof.Rows hiding St

theorem _root_.L2.PE.imp {X : Cx} {e : Expr} {t t' : TE} (h : PE X e t) (w : ∀ σ H Q, t' σ H Q → t σ H Q) : PE X e t' := ⟨fun pins s σ H Q I q => h.run pins s σ H Q I (w σ H Q q)⟩
theorem _root_.L2.PT.imp {X : Cx} {e : Expr} {t t' : TT} (h : PT X e t) (w : ∀ σ H Q, t' σ H Q → t σ H Q) : PT X e t' := ⟨fun pins s σ H Q I q => h.run pins s σ H Q I (w σ H Q q)⟩
theorem _root_.L2.PW.imp {X : Cx} {e : Expr} {t t' : TT} (h : PW X e t) (w : ∀ σ H Q, t' σ H Q → t σ H Q) : PW X e t' := ⟨fun wh pins s σ H Q I q => h.run wh pins s σ H Q I (w σ H Q q)⟩
theorem _root_.L2.PA.imp {X : Cx} {es : List Expr} {t t' : TA} (h : PA X es t) (w : ∀ σ H Q, t' σ H Q → t σ H Q) : PA X es t' := ⟨fun pos pins s σ H Q I q => h.run pos pins s σ H Q I (w σ H Q q)⟩
theorem _root_.L2.PS.imp {X : Cx} {st : Stmt} {t t' : TS} (h : PS X st t) (w : ∀ D σ H, t' D σ H → t D σ H) : PS X st t' := ⟨fun pins s σ H D I q => h.run pins s σ H D I (w D σ H q)⟩
theorem _root_.L2.PSs.imp {X : Cx} {st : List Stmt} {t t' : TS} (h : PSs X st t) (w : ∀ D σ H, t' D σ H → t D σ H) : PSs X st t' := ⟨fun pins s σ H D I q => h.run pins s σ H D I (w D σ H q)⟩

/-! ### two parts in a row -/
section
variable {K : Kx} {p : Pm K} {σ : L2.St} {g : G} {H : Hp} {s : S}
theorem seqP {γ δ : Type} {A' : γ → δ → G → Hp → G → Hp → Prop} (pa : Pre A') {fa : M D} {k : D → M γ} {Q : δ → Hp → Prop} (h : tG p A' (bnd fa k) σ H Q) :
    tP p fa σ H fun v H1 => ∃ g1 s1 x, RS p g1 σ H1 s1 ∧ RVp K g1 H1 x v ∧ Post p σ A' (k x s1) g1 H1 Q := by
  obtain ⟨g, s, r, q⟩ := h
  refine ⟨g, s, r, Post.mono (Post.bnd (A := AP K) pa q) fun v H1 ⟨g1, s1, d, r1, e1, a1, q1⟩ => ⟨g1, s1, d, r1, a1, q1⟩⟩
theorem seqV {γ δ : Type} {A' : γ → δ → G → Hp → G → Hp → Prop} (pa : Pre A') {fa : M D} {k : D → M γ} {Q : δ → Hp → Prop} (h : tG p A' (bnd fa k) σ H Q) :
    tD p fa σ H fun v H1 => ∃ g1 s1 x, RS p g1 σ H1 s1 ∧ RV K g1.F g1.φ x v ∧ Post p σ A' (k x s1) g1 H1 Q := by
  obtain ⟨g, s, r, q⟩ := h
  refine ⟨g, s, r, Post.mono (Post.bnd (A := AV K) pa q) fun v H1 ⟨g1, s1, d, r1, e1, a1, q1⟩ => ⟨g1, s1, d, r1, a1, q1⟩⟩
theorem seqL {γ δ : Type} {A' : γ → δ → G → Hp → G → Hp → Prop} (pa : Pre A') {fa : M (List D)} {k : List D → M γ} {Q : δ → Hp → Prop} (h : tG p A' (bnd fa k) σ H Q) :
    tL p fa σ H fun v H1 => ∃ g1 s1 x, RS p g1 σ H1 s1 ∧ RVs K g1.F g1.φ x v ∧ Post p σ A' (k x s1) g1 H1 Q := by
  obtain ⟨g, s, r, q⟩ := h
  refine ⟨g, s, r, Post.mono (Post.bnd (A := AL K) pa q) fun v H1 ⟨g1, s1, d, r1, e1, a1, q1⟩ => ⟨g1, s1, d, r1, a1, q1⟩⟩
theorem seqB {γ δ : Type} {A' : γ → δ → G → Hp → G → Hp → Prop} (pa : Pre A') {fa : M Bool} {k : Bool → M γ} {Q : δ → Hp → Prop} (h : tG p A' (bnd fa k) σ H Q) :
    tB p fa σ H fun b H1 => ∃ g1 s1, RS p g1 σ H1 s1 ∧ Post p σ A' (k b s1) g1 H1 Q := by
  obtain ⟨g, s, r, q⟩ := h
  refine ⟨g, s, r, Post.mono (Post.bnd (A := AB) pa q) fun v H1 ⟨g1, s1, d, r1, e1, a1, q1⟩ => ?_⟩
  subst a1
  exact ⟨g1, s1, r1, q1⟩
theorem seqPP {γ δ : Type} {A' : γ → δ → G → Hp → G → Hp → Prop} (pa : Pre A') {fa fb : M D} {k : D → D → M γ} {Q : δ → Hp → Prop} (h : tG p A' (bnd fa fun x => bnd fb fun y => k x y) σ H Q) :
    tP p fa σ H fun v H1 => tP p fb σ H1 fun u H2 => ∃ g2 s2 x y, RS p g2 σ H2 s2 ∧ RVp K g2 H2 x v ∧ RVp K g2 H2 y u ∧ Post p σ A' (k x y s2) g2 H2 Q := by
  obtain ⟨g, s, r, q⟩ := h
  refine ⟨g, s, r, Post.mono (Post.bnd (A := AP K) pa q) fun v H1 ⟨g1, s1, x, r1, e1, a1, q1⟩ => ?_⟩
  refine ⟨g1, s1, r1, Post.mono (Post.bnd (A := AP K) pa q1) fun u H2 ⟨g2, s2, y, r2, e2, a2, q2⟩ => ⟨g2, s2, x, y, r2, ?_, a2, q2⟩⟩
  exact RVp.ext e2 a1
end
/-! ### what a value looks like -/
section
variable {K : Kx} {p : Pm K} {σ : L2.St} {g : G} {H : Hp} {s : S} {v : V}
theorem RVp.int {i : Int} (h : RVp K g H (.int i) v) : v = .int i := by
  rcases h with h | ⟨_, _, _, e, _⟩
  · cases h; rfl
  · cases e
theorem RVp.bl {i : Bool} (h : RVp K g H (.bl i) v) : v = .bl i := by
  rcases h with h | ⟨_, _, _, e, _⟩
  · cases h; rfl
  · cases e
theorem RVp.str {i : Str} (h : RVp K g H (.str i) v) : v = .str i := by
  rcases h with h | ⟨_, _, _, e, _⟩
  · cases h; rfl
  · cases e
theorem RVp.non (h : RVp K g H .non v) : v = .non := by
  rcases h with h | ⟨_, _, _, e, _⟩
  · cases h; rfl
  · cases e
theorem RVp.tup {ds : List D} (r : RM K g H s.ms) (h : RVp K g H (.tup ds) v) : ∃ a vs, v = .ref a ∧ SqT K.K H a vs ∧ RVs K g.F g.φ ds vs := by
  rcases h with h | ⟨_, _, _, e, _⟩
  · cases h with
    | tup h1 h2 => exact ⟨_, _, rfl, SqT.up r.sub h1, h2⟩
  · cases e
theorem RVp.lst {ds : List D} (r : RM K g H s.ms) (h : RVp K g H (.lst ds) v) : ∃ a vs, v = .ref a ∧ H a = some (.lst vs) ∧ RVs K g.F g.φ ds vs := by
  rcases h with h | ⟨a, vs, ds', e, h2, h3, h4, h5⟩
  · cases h with
    | lst h1 h2 => exact ⟨_, _, rfl, r.sub _ _ h1, h2⟩
  · cases e
    exact ⟨a, vs, h2, h3, h4⟩
theorem RVp.scr {ds : List D} (r : RM K g H s.ms) (h : RVp K g H (.scr ds) v) : ∃ a vs, v = .ref a ∧ SqL K.K H a vs ∧ RVs K g.F g.φ ds vs := by
  rcases h with h | ⟨_, _, _, e, _⟩
  · cases h with
    | scr h1 h2 => exact ⟨_, _, rfl, SqL.up r.sub h1, h2⟩
  · cases e
theorem RVp.dct (r : RM K g H s.ms) (h : RVp K g H .dct v) : ∃ a, v = .ref a ∧ H a = some (.dK []) := by
  rcases h with h | ⟨_, _, _, e, _⟩
  · cases h with
    | dct h1 => exact ⟨_, rfl, r.sub _ _ h1⟩
  · cases e
theorem RVp.ref {n : Nat} (r : RM K g H s.ms) (h : RVp K g H (.ref n) v) : ∃ a ds vs, v = .ref a ∧ g.φ[n]? = some a ∧ s.ms[n]? = some ds ∧ H a = some (.lst vs) ∧ RVs K g.F g.φ ds vs := by
  rcases h with h | ⟨_, _, _, e, _⟩
  · cases h with
    | ref h1 =>
      have hlt : n < s.ms.length := by
        rw [r.mlen]
        exact (List.getElem?_eq_some_iff.mp h1).1
      obtain ⟨vs, z1, z2, z3⟩ := r.mem n _ _ h1 (List.getElem?_eq_getElem hlt)
      exact ⟨_, _, vs, rfl, h1, List.getElem?_eq_getElem hlt, z1, z2⟩
  · cases e
/-- as the kit's data -/
def D.py : D → Option PyData
  | .non => some .none
  | .bl b => some (.bool b)
  | .int i => some (.int i)
  | .str x => some (.str x)
  | .tup xs => (pys xs).map .tuple
  | .lst xs => (pys xs).map .list
  | _ => none
where pys : List D → Option (List PyData)
  | [] => some []
  | d :: ds => match d.py, pys ds with
    | some a, some b => some (a :: b)
    | _, _ => none
mutual
theorem RV.dp {F : Hp} {φ : List Addr} (sub : ∀ a o, F a = some o → H a = some o) : ∀ (d : D) (v : V) (y : PyData), RV K F φ d v → d.py = some y → Dp K.K H v y
  | .non, _, _, .non, e => by
    cases e
    exact .non
  | .bl b, _, _, .bl _, e => by
    cases e
    exact .bl b
  | .int i, _, _, .int _, e => by
    cases e
    exact .int i
  | .str x, _, _, .str _, e => by
    cases e
    exact .str x
  | .tup ds, _, y, .tup h1 h2, e => by
    unfold D.py at e
    cases z : D.py.pys ds with
    | none => rw [z] at e; cases e
    | some ys =>
      rw [z] at e
      cases e
      exact .tup (SqT.up sub h1) (RVs.dp sub ds _ ys h2 z)
  | .lst ds, _, y, .lst h1 h2, e => by
    unfold D.py at e
    cases z : D.py.pys ds with
    | none => rw [z] at e; cases e
    | some ys =>
      rw [z] at e
      cases e
      exact .lst (SqL.of (sub _ _ h1)) (RVs.dp sub ds _ ys h2 z)
  | .scr _, _, _, _, e => by cases e
  | .dct, _, _, _, e => by cases e
  | .ref _, _, _, _, e => by cases e
  | .obj _, _, _, _, e => by cases e
  | .clo _ _, _, _, _, e => by cases e
theorem RVs.dp {F : Hp} {φ : List Addr} (sub : ∀ a o, F a = some o → H a = some o) : ∀ (ds : List D) (vs : List V) (ys : List PyData), RVs K F φ ds vs → D.py.pys ds = some ys → DpAll K.K H vs ys
  | [], _, _, .nil, e => by
    cases e
    exact .nil
  | d :: ds, _, ys, .cons r q, e => by
    unfold D.py.pys at e
    cases z : d.py with
    | none => rw [z] at e; cases e
    | some a =>
      cases z2 : D.py.pys ds with
      | none => rw [z, z2] at e; cases e
      | some b =>
        rw [z, z2] at e
        cases e
        exact .cons (RV.dp sub d _ a r z) (RVs.dp sub ds _ b q z2)
end
theorem RVp.dp {d : D} {y : PyData} (r : RM K g H s.ms) (h : RVp K g H d v) (e : d.py = some y) : Dp K.K H v y := by
  rcases h with h | ⟨a, vs, ds, e1, e2, h3, h4, h5⟩
  · exact RV.dp r.sub d v y h e
  · subst e1 e2
    unfold D.py at e
    cases z : D.py.pys ds with
    | none => rw [z] at e; cases e
    | some ys =>
      rw [z] at e
      cases e
      exact .lst (SqL.of h3) (RVs.dp r.sub ds _ ys h4 z)
end

/-! ### names, constants -/
section
variable {X : Cx} {lt : Nat → LamI} {p : Pm ⟨X.K, lt⟩} {e a b c : Expr} {pos : Pos} {fa fb fc : M D}
theorem p_of {f : M D} (h : PE X e (tD p f)) : PE X e (tP p f) := h.imp fun σ H Q ⟨g, s, r, q⟩ => ⟨g, s, r, by
  cases z : f s with
  | ok d s' =>
    rw [z] at q
    exact fun v H' g' a b c => q v H' g' a b (.inl c)
  | err c fs s' =>
    rw [z] at q
    exact q
  | stuck =>
    rw [z] at q
    exact q⟩
/-- a new list is frozen -/
def frzd (f : M (List D)) : M D := bnd f fun xs => ret (.lst xs)
theorem d_frz {f : M (List D)} (h : PE X e (tF p f)) : PE X e (tD p (frzd f)) := h.imp fun σ H Q ⟨g, s, r, q⟩ => ⟨g, s, r, by
  unfold frzd bnd at q
  cases z : f s with
  | ok d s' =>
    rw [z] at q
    intro v H' g' r' ex ⟨a, vs, ev, rv, ha, hf, hp, ho, hn⟩
    subst ev
    have q : ∀ v H' g', RS p g' σ H' s' → Ext g H g' H' → RV ⟨X.K, lt⟩ g'.F g'.φ (.lst d) v → Q v H' := q
    exact q _ H' (g'.fz a vs) (r.fz r' ex hn ha hf hp ho) (ex.fz hf hn) (.lst upd_same (RVs.up (fz_up hf) ⟨[], by simp [G.fz]⟩ _ _ rv))
  | err c fs s' =>
    rw [z] at q
    exact q
  | stuck =>
    rw [z] at q
    exact q⟩
theorem d_var {i : Nat} {x : Str} (hN : X.N[i]? = some x) (hv : Vis X.env.scope x) (hd : (x == ("__debug__" : Str)) = false := by decide) (hcd : (x == ("__classdict__" : Str)) = false := by decide) :
    PE X (.Name x pos) (tD p (getv i)) := (pe_var hN hv hd hcd).imp fun σ H Q ⟨g, s, r, q⟩ => by
  unfold getv at q
  cases h : s.env[i]? with
  | none => rw [h] at q; exact q.elim
  | some sl =>
    rw [h] at q
    cases sl with
    | un => exact q.elim
    | exc c fs => exact q.elim
    | val d =>
      obtain ⟨v, h1, h2⟩ := r.f.env i d h
      exact ⟨v, h1, q v H g r (.refl g H) h2⟩
    | own xs =>
      obtain ⟨a, vs, h1, h2, h3, h4, h5, h6⟩ := r.f.own i xs h
      exact ⟨_, h2, q _ H (g.frz i a vs) (r.frz h h1 h2 h3 h4 h5 h6) (g.frzE H h1 h5) (.lst upd_same (RVs.up (frz_up h5) ⟨[], by simp [G.frz]⟩ _ _ h4))⟩
theorem p_var {i : Nat} {x : Str} (hN : X.N[i]? = some x) (hv : Vis X.env.scope x) (hd : (x == ("__debug__" : Str)) = false := by decide) (hcd : (x == ("__classdict__" : Str)) = false := by decide) :
    PE X (.Name x pos) (tP p (peekv i)) := (pe_var hN hv hd hcd).imp fun σ H Q ⟨g, s, r, q⟩ => by
  unfold peekv at q
  cases h : s.env[i]? with
  | none => rw [h] at q; exact q.elim
  | some sl =>
    rw [h] at q
    cases sl with
    | un => exact q.elim
    | exc c fs => exact q.elim
    | val d =>
      obtain ⟨v, h1, h2⟩ := r.f.env i d h
      exact ⟨v, h1, q v H g r (.refl g H) (.inl h2)⟩
    | own xs =>
      obtain ⟨a, vs, h1, h2, h3, h4, h5, h6⟩ := r.f.own i xs h
      exact ⟨_, h2, q _ H g r (.refl g H) (.inr ⟨a, vs, xs, rfl, rfl, h3, h4, h6⟩)⟩
theorem d_c {v : V} {d : D} (h : PE X e (tC v)) (rv : ∀ F φ, RV ⟨X.K, lt⟩ F φ d v) : PE X e (tD p (ret d)) := h.imp fun σ H Q ⟨g, s, r, q⟩ => q v H g r (.refl g H) (rv _ _)
theorem d_int {i j} : PE X (.Constant (.int i) j pos) (tD p (ret (.int i))) := d_c pe_int fun _ _ => .int i
theorem d_bl {b j} : PE X (.Constant (.bool b) j pos) (tD p (ret (.bl b))) := d_c pe_bl fun _ _ => .bl b
theorem d_non {j} : PE X (.Constant .none j pos) (tD p (ret .non)) := d_c pe_non fun _ _ => .non
theorem d_str {x j} : PE X (.Constant (.str x) j pos) (tD p (ret (.str x))) := d_c pe_str fun _ _ => .str x
/-- a module's constant, def, class -/
theorem d_glob {x : Str} {v : V} {d : D} {u : Value} (hg : Gl X x) (hm : X.mg x = some u) (r : RelV v u) (rv : ∀ F φ, RV ⟨X.K, lt⟩ F φ d v) (hd : (x == ("__debug__" : Str)) = false := by decide) : PE X (.Name x pos) (tD p (ret d)) := d_c (pe_glob hg hm r hd) rv
theorem d_def {x : Str} {f : Addr} (hg : Gl X x) (hm : X.mg x = some (.ref f)) (hd : (x == ("__debug__" : Str)) = false := by decide) : PE X (.Name x pos) (tD p (ret (.obj f))) := d_glob hg hm (v := .ref f) rfl (fun _ _ => .obj) hd
/-! ### argument lists, displays -/
def argN : M (List D) := ret []
def argC (f : M D) (r : M (List D)) : M (List D) := bnd f fun x => bnd r fun xs => ret (x :: xs)
theorem a_nil : PA X [] (tL p argN) := pa_nil.imp fun σ H Q ⟨g, s, r, q⟩ => q [] H g r (.refl g H) .nil
theorem a_cons {es : List Expr} {f : M D} {r : M (List D)} (he : PE X e (tD p f)) (ha : PA X es (tL p r)) (hs : starEach (e :: es) X.env = (false, eval e X.env) :: starEach es X.env := by rfl) :
    PA X (e :: es) (tL p (argC f r)) := (pa_cons he ha hs).imp fun σ H Q ⟨g, s, rs, q⟩ => by
  refine ⟨g, s, rs, Post.mono (Post.bnd (A := AV ⟨X.K, lt⟩) preL q) fun v H1 ⟨g1, s1, d, r1, e1, a1, q1⟩ => ?_⟩
  refine ⟨g1, s1, r1, Post.mono (Post.bnd (A := AL ⟨X.K, lt⟩) preL q1) fun vs H2 ⟨g2, s2, ds, r2, e2, a2, q2⟩ => ?_⟩
  exact q2 (v :: vs) H2 g2 r2 (.refl _ _) (.cons (e2.rv a1) a2)
def mkTup (xs : List D) : M D := fun s => if xs.length ≤ 100000 then .ok (.tup xs) s else .stuck
def mkLst (xs : List D) : M (List D) := fun s => if xs.length ≤ 100000 then .ok xs s else .stuck
theorem szL {n : Nat} (h : n ≤ 100000) : n ≤ sizeLine := Nat.le_trans h (by decide)
theorem d_tup {es : List Expr} {f : M (List D)} {x1} (h : PA X es (tL p f)) : PE X (.Tuple es x1 pos) (tD p (bnd f mkTup)) := (pe_tup h).imp fun σ H Q q => by
  obtain ⟨g, s, r, q⟩ := seqL preV q
  refine ⟨g, s, r, Post.mono q fun vs H1 ⟨g1, s1, xs, r1, a1, q1⟩ => ?_⟩
  unfold mkTup at q1
  by_cases hl : xs.length ≤ 100000
  · rw [if_pos hl] at q1
    refine ⟨by rw [← a1.length]; exact szL hl, fun q hq => q1 _ _ _ (r1.add hq _) (r1.addE hq _) (.tup (.inl (.inl G.add_same)) (RVs.up (r1.m.addUp hq _) ⟨[], by simp [G.add]⟩ _ _ a1))⟩
  · rw [if_neg hl] at q1
    exact q1.elim
/-- a new list that nothing else knows -/
theorem F_new {K : Kx} {p : Pm K} {σ : L2.St} {g : G} {H : Hp} {s : S} {xs : List D} {vs : List V} {Q : VK} (r : RS p g σ H s) (rv : RVs K g.F g.φ xs vs) (h : Post p σ (AF K) (.ok xs s) g H Q) {q : Addr} (hq : H q = none) : Q (.ref q) (upd H q (.lst vs)) := by
  have hF : g.F q = none := by
    cases z : g.F q with
    | none => rfl
    | some o =>
      have := r.m.sub q o z
      rw [hq] at this
      cases this
  have hφ : q ∉ g.φ := fun z => by
    obtain ⟨n, hn⟩ := List.mem_iff_getElem?.mp z
    have hlt : n < s.ms.length := by
      rw [r.m.mlen]
      exact (List.getElem?_eq_some_iff.mp hn).1
    obtain ⟨ws, z1, _⟩ := r.m.mem n q _ hn (List.getElem?_eq_getElem hlt)
    rw [hq] at z1
    cases z1
  have hω : ∀ j, g.ω j ≠ some q := fun j z => by
    obtain ⟨ds, hd⟩ := r.f.is j q z
    obtain ⟨a, ws, z1, z2, z3, _⟩ := r.f.own j ds hd
    rw [z] at z1
    cases z1
    rw [hq] at z3
    cases z3
  have E : Ext g H g (upd H q (.lst vs)) := ⟨fun _ _ h => h, ⟨[], by simp⟩, fun _ h => .inl h, fun _ _ h => .inl h, fun i a h => .inl ⟨i, h⟩, fun b u h => by
    by_cases e : b = q
    · subst e
      exact ⟨_, upd_same⟩
    · exact ⟨u, by rw [upd_ne e]; exact h⟩, fun b u h _ _ => by rw [upd_ne (ne_of_none h hq)]; exact h⟩
  have rex : ∀ {fs dx}, REx K g H fs dx → REx K g (upd H q (.lst vs)) fs dx := fun {fs dx} h => by
    cases dx with
    | none => exact h
    | some d =>
      obtain ⟨ws, z1, z2, z3, z4⟩ := h
      exact ⟨ws, by rw [upd_ne (ne_of_none z1 hq)]; exact z1, z2, z3, z4⟩
  have r' : RS p g σ (upd H q (.lst vs)) s := r.go E.s
    ⟨fun a o z => by rw [upd_ne (fun e => by rw [e, hF] at z; cases z)]; exact r.m.sub a o z, r.m.mlen, fun n a ds z1 z2 => by
      obtain ⟨ws, h1, h2, h3⟩ := r.m.mem n a ds z1 z2
      exact ⟨ws, by rw [upd_ne (ne_of_none h1 hq)]; exact h1, h2, h3⟩, r.m.nod, r.m.nt⟩
    ⟨r.f.len, r.f.env, fun i ds z => by
      obtain ⟨a, ws, h1, h2, h3, h4⟩ := r.f.own i ds z
      exact ⟨a, ws, h1, h2, by rw [upd_ne (ne_of_none h3 hq)]; exact h3, h4⟩, fun i c fs z => by
      obtain ⟨a, dx, h1, h2, h3⟩ := r.f.exc i c fs z
      exact ⟨a, dx, h1, h2, rex h3⟩, r.f.is, r.f.inj⟩
    (r.tabs.ext fun b u z => by rw [upd_ne (ne_of_none z hq)]; exact z)
  exact h _ _ g r' E ⟨q, vs, rfl, rv, upd_same, hF, hφ, hω, hq⟩
theorem f_lst {es : List Expr} {f : M (List D)} (h : PA X es (tL p f)) : PE X (.List es pos) (tF p (bnd f mkLst)) := (pe_lst h).imp fun σ H Q q => by
  obtain ⟨g, s, r, q⟩ := seqL preF q
  refine ⟨g, s, r, Post.mono q fun vs H1 ⟨g1, s1, xs, r1, a1, q1⟩ => ?_⟩
  unfold mkLst at q1
  by_cases hl : xs.length ≤ 100000
  · rw [if_pos hl] at q1
    exact ⟨by rw [← a1.length]; exact szL hl, fun q hq => F_new r1 a1 q1 hq⟩
  · rw [if_neg hl] at q1
    exact q1.elim
end
end Mp

set_option Elab.async false
set_option linter.all false
set_option maxRecDepth 100000
set_option maxHeartbeats 4000000
namespace Mp
open PySem PySem.Spec L2
open PyProof.Rows hiding St

abbrev O1 := D → S → Option D
abbrev O2 := D → D → S → Option D
def ap1 (o : O1) (x : D) : M D := fun s => match o x s with
  | some d => .ok d s
  | none => .stuck
def ap2 (o : O2) (x y : D) : M D := fun s => match o x y s with
  | some d => .ok d s
  | none => .stuck
def op1 (o : O1) (fa : M D) : M D := bnd fa fun x => ap1 o x
def op2 (o : O2) (fa fb : M D) : M D := bnd fa fun x => bnd fb fun y => ap2 o x y
/-- what follows a value that is told -/
def Fin {K : Kx} (p : Pm K) (σ : L2.St) (g : G) (H : Hp) (s : S) (d : D) (Q : VK) : Prop := ∀ w H' g', RS p g' σ H' s → Ext g H g' H' → RV K g'.F g'.φ d w → Q w H'
/-- a two-place operation, by values -/
def rO2 {K : Kx} (p : Pm K) (o : O2) : R2 := fun v u H Q => ∃ σ g s x y d, RS p g σ H s ∧ RVp K g H x v ∧ RVp K g H y u ∧ o x y s = some d ∧ Fin p σ g H s d Q
def rO1 {K : Kx} (p : Pm K) (o : O1) : V → Hp → VK → Prop := fun v H Q => ∃ σ g s x d, RS p g σ H s ∧ RVp K g H x v ∧ o x s = some d ∧ Fin p σ g H s d Q
section
variable {K : Kx} {p : Pm K} {σ : L2.St} {g : G} {H : Hp} {s : S} {Q : VK}
theorem Fin.now {d : D} {v : V} (h : Fin p σ g H s d Q) (r : RS p g σ H s) (rv : RV K g.F g.φ d v) : Q v H := h v H g r (.refl g H) rv
theorem Fin.tup {ds : List D} {vs : List V} (h : Fin p σ g H s (.tup ds) Q) (r : RS p g σ H s) (rv : RVs K g.F g.φ ds vs) {q : Addr} (hq : H q = none) : Q (.ref q) (upd H q (.tup vs)) :=
  h _ _ _ (r.add hq _) (r.addE hq _) (.tup (.inl (.inl G.add_same)) (RVs.up (r.m.addUp hq _) ⟨[], by simp [G.add]⟩ _ _ rv))
theorem ap1_fin {o : O1} {x : D} (h : Post p σ (AV K) (ap1 o x s) g H Q) : ∃ d, o x s = some d ∧ Fin p σ g H s d Q := by
  unfold ap1 at h
  cases z : o x s with
  | none => rw [z] at h; exact h.elim
  | some d =>
    rw [z] at h
    exact ⟨d, rfl, h⟩
theorem ap2_fin {o : O2} {x y : D} (h : Post p σ (AV K) (ap2 o x y s) g H Q) : ∃ d, o x y s = some d ∧ Fin p σ g H s d Q := by
  unfold ap2 at h
  cases z : o x y s with
  | none => rw [z] at h; exact h.elim
  | some d =>
    rw [z] at h
    exact ⟨d, rfl, h⟩
theorem use2 {o : O2} {fa fb : M D} (h : tD p (op2 o fa fb) σ H Q) : tOp (rO2 p o) (tP p fa) (tP p fb) σ H Q := by
  obtain ⟨g, s, r, q⟩ := seqPP preV h
  refine ⟨g, s, r, Post.mono q fun v H1 ⟨g1, s1, r1, q1⟩ => ⟨g1, s1, r1, Post.mono q1 fun u H2 ⟨g2, s2, x, y, r2, a1, a2, q2⟩ => ?_⟩⟩
  obtain ⟨d, e, f⟩ := ap2_fin q2
  exact ⟨σ, g2, s2, x, y, d, r2, a1, a2, e, f⟩
theorem use1 {o : O1} {fa : M D} (h : tD p (op1 o fa) σ H Q) : tUn (rO1 p o) (tP p fa) σ H Q := by
  obtain ⟨g, s, r, q⟩ := seqP preV h
  refine ⟨g, s, r, Post.mono q fun v H1 ⟨g1, s1, x, r1, a1, q1⟩ => ?_⟩
  obtain ⟨d, e, f⟩ := ap1_fin q1
  exact ⟨σ, g1, s1, x, d, r1, a1, e, f⟩
end
section
variable {X : Cx} {lt : Nat → LamI} {p : Pm ⟨X.K, lt⟩} {e a b c : Expr} {pos : Pos} {fa fb fc : M D}
theorem d_bin {op : Operator} {o : O2} (ho : OpR X (binaryOp op) (rO2 p o)) (ha : PE X a (tP p fa)) (hb : PE X b (tP p fb)) : PE X (.BinOp a op b pos) (tD p (op2 o fa fb)) := (pe_op ho ha hb).imp fun _ _ _ q => use2 q
theorem d_un {op : UnaryOp} {o : O1} (ho : UnR X (unaryOp op) (rO1 p o)) (ha : PE X a (tP p fa)) : PE X (.UnaryOp op a pos) (tD p (op1 o fa)) := (pe_un ho ha).imp fun _ _ _ q => use1 q
theorem d_cmp {op : CmpOp} {o : O2} (ho : OpR X (compareOp op) (rO2 p o)) (ha : PE X a (tP p fa)) (hb : PE X b (tP p fb)) (hm : behindInMarks op b = false) : PE X (.Compare a [op] [b] pos) (tD p (op2 o fa fb)) := (pe_cmpR ho ha hb hm).imp fun _ _ _ q => use2 q
/-- a truth value as a value -/
def asB (f : M D) : M Bool := bnd f fun x => lift (match x with | .bl b => some b | _ => none)
def ofB (f : M Bool) : M D := bnd f fun b => ret (.bl b)
theorem useB {K : Kx} {p : Pm K} {f : M D} {σ : L2.St} {H : Hp} {Q : Bool → Hp → Prop} (h : tB p (asB f) σ H Q) : tD p f σ H fun x H' => ∃ k, x = .bl k ∧ Q k H' := by
  obtain ⟨g, s, r, q⟩ := seqV preB h
  refine ⟨g, s, r, Post.mono q fun v H1 ⟨g1, s1, x, r1, a1, q1⟩ => ?_⟩
  unfold lift at q1
  cases x with
  | bl b =>
    cases a1
    exact ⟨b, rfl, q1 b H1 g1 r1 (.refl _ _) rfl⟩
  | _ => exact q1.elim
theorem b_cmp {op : CmpOp} {o : O2} (ho : OpR X (compareOp op) (rO2 p o)) (ha : PE X a (tP p fa)) (hb : PE X b (tP p fb)) (hm : behindInMarks op b = false) : PT X (.Compare a [op] [b] pos) (tB p (asB (op2 o fa fb))) :=
  (pt_cmpR ho ha hb hm).imp fun _ _ _ q => use2 (useB q)
/-- a op1 b op2 c -/
def chain2 (o o' : O2) (fa fb fc : M D) : M D := bnd fa fun x => bnd fb fun y => bnd (ap2 o x y) fun z => match z with
  | .bl true => bnd fc fun w => ap2 o' y w
  | .bl false => ret (.bl false)
  | _ => stk
theorem ap2_ok {o : O2} {x y d : D} {s : S} (h : o x y s = some d) : ap2 o x y s = .ok d s := by unfold ap2; rw [h]
theorem use3 {K : Kx} {p : Pm K} {o o' : O2} {σ : L2.St} {H : Hp} {Q : VK} (h : tD p (chain2 o o' fa fb fc) σ H Q) : tChain (rO2 p o) (rO2 p o') (tP p fa) (tP p fb) (tP p fc) σ H Q := by
  obtain ⟨g, s, r, q⟩ := seqPP preV h
  refine ⟨g, s, r, Post.mono q fun v H1 ⟨g1, s1, r1, q1⟩ => ⟨g1, s1, r1, Post.mono q1 fun u H2 ⟨g2, s2, x, y, r2, a1, a2, q2⟩ => ?_⟩⟩
  unfold bnd at q2
  cases z : o x y s2 with
  | none =>
    have e : ap2 o x y s2 = .stuck := by unfold ap2; rw [z]
    rw [e] at q2
    exact q2.elim
  | some d =>
    rw [ap2_ok z] at q2
    refine ⟨σ, g2, s2, x, y, d, r2, a1, a2, z, fun w H3 g3 r3 e3 rv => ?_⟩
    cases d with
    | bl k =>
      cases rv
      refine ⟨k, rfl, ?_⟩
      cases k with
      | false =>
        rw [if_neg Bool.false_ne_true]
        exact Post.pre preV e3 q2 (.bl false) H3 g3 r3 (.refl _ _) (.bl false)
      | true =>
        rw [if_pos rfl]
        have q3 : Post p σ (AV K) (Mp.bnd fc (fun w => ap2 o' y w) s2) g3 H3 Q := Post.pre preV e3 q2
        refine ⟨g3, s2, r3, Post.mono (Post.bnd (A := AP K) preV q3) fun w H4 ⟨g4, s4, ww, r4, e4, a4, q4⟩ => ?_⟩
        obtain ⟨d', z', f⟩ := ap2_fin q4
        exact ⟨σ, g4, s4, y, ww, d', r4, (a2.ext e3).ext e4, a4, z', f⟩
    | _ => exact q2.elim
theorem d_chain {op op' : CmpOp} {o o' : O2} (ho : OpR X (compareOp op) (rO2 p o)) (ho' : OpR X (compareOp op') (rO2 p o')) (ha : PE X a (tP p fa)) (hb : PE X b (tP p fb)) (hc : PE X c (tP p fc))
    (hm : lastMarks [op, op'] [b, c] = false := by with_unfolding_all rfl) : PE X (.Compare a [op, op'] [b, c] pos) (tD p (chain2 o o' fa fb fc)) := (pe_chain ho ho' ha hb hc hm).imp fun _ _ _ q => use3 q
theorem b_chain {op op' : CmpOp} {o o' : O2} (ho : OpR X (compareOp op) (rO2 p o)) (ho' : OpR X (compareOp op') (rO2 p o')) (ha : PE X a (tP p fa)) (hb : PE X b (tP p fb)) (hc : PE X c (tP p fc))
    (hm : lastMarks [op, op'] [b, c] = false := by with_unfolding_all rfl) : PT X (.Compare a [op, op'] [b, c] pos) (tB p (asB (chain2 o o' fa fb fc))) := (pt_chain ho ho' ha hb hc hm).imp fun _ _ _ q => use3 (useB q)

/-! ### int arithmetic -/
def mulOk (i j : Int) : Bool := decide (i.natAbs.log2 + j.natAbs.log2 < 1000000)
def divOk (j : Int) : Bool := decide (j ≠ 0) && decide (j.natAbs.log2 < 9000)
def powOk (i j : Int) : Bool := decide (0 ≤ j) && decide ((i.natAbs.log2 + 1) * j.toNat ≤ 1000000)
def addO : O2 := fun x y _ => match x, y with
  | .int i, .int j => some (.int (i + j))
  | .str x, .str y => if x.length + y.length ≤ 100000 then some (.str (x ++ y)) else none
  | .tup xs, .tup ys => if xs.length + ys.length ≤ 100000 then some (.tup (xs ++ ys)) else none
  | _, _ => none
def subO : O2 := fun x y _ => match x, y with
  | .int i, .int j => some (.int (i - j))
  | _, _ => none
def mulO : O2 := fun x y _ => match x, y with
  | .int i, .int j => if mulOk i j then some (.int (i * j)) else none
  | .tup xs, .int k => if 2 ≤ k ∧ k ≤ 1000 ∧ xs.length ≤ 1000 ∧ xs ≠ [] then some (.tup (List.replicate k.toNat xs).flatten) else none
  | _, _ => none
def fdivO : O2 := fun x y _ => match x, y with
  | .int i, .int j => if divOk j then some (.int (i.fdiv j)) else none
  | _, _ => none
def modO : O2 := fun x y _ => match x, y with
  | .int i, .int j => if j ≠ 0 then some (.int (i.fmod j)) else none
  | _, _ => none
def powO : O2 := fun x y _ => match x, y with
  | .int i, .int j => if powOk i j then some (.int (i ^ j.toNat)) else none
  | _, _ => none
def negO : O1 := fun x _ => match x with
  | .int i => some (.int (-i))
  | _ => none
theorem bits_le (x : Int) : Builtin.Int.intBits x ≤ x.natAbs.log2 + 1 := by
  unfold Builtin.Int.intBits
  split <;> omega
theorem mulOk.ok {i j : Int} (h : mulOk i j = true) : CMulW i j := (of_decide_eq_true (p := i.natAbs.log2 + j.natAbs.log2 < 1000000) h)
theorem o_add : OpR X (binaryOp .Add) (rO2 p addO) := by
  intro pins s σ H x y v u Q I rx ry h
  obtain ⟨σ', g, s', d, e, z, r, a1, a2, ho, f⟩ := h
  unfold addO at ho
  split at ho
  · cases ho
    cases a1.int
    cases a2.int
    exact op_add pins s σ H _ _ v u Q I rx ry ⟨_, _, rfl, rfl, f.now r (.int _)⟩
  · split at ho
    · cases ho
      cases a1.str
      cases a2.str
      exact op_add_str pins s σ H _ _ v u Q I rx ry ⟨_, _, rfl, rfl, szL (by assumption), f.now r (.str _)⟩
    · cases ho
  · split at ho
    · cases ho
      obtain ⟨a, vs, rfl, h1, h2⟩ := a1.tup r.m
      obtain ⟨b, ws, rfl, h3, h4⟩ := a2.tup r.m
      have l1 := h2.length
      have l2 := h4.length
      have back : ∀ {ds : List D} {q : Addr} {us : List V}, RVp ⟨X.K, lt⟩ g H (.tup ds) (.ref q) → RV ⟨X.K, lt⟩ g.F g.φ (.tup ds) (.ref q) := fun {ds q us} h => by
        rcases h with h | ⟨_, _, _, e, _⟩
        · exact h
        · cases e
      refine op_catA pins s σ H _ _ v u Q I rx ry ⟨a, b, vs, ws, rfl, rfl, h1, h3, szL (by omega), fun e => ?_, fun e1 e2 => ?_, fun _ _ q hq => f.tup r (h2.append h4) hq⟩
      · subst e
        cases h2
        exact f.now r (back (us := ws) a2)
      · subst e2
        cases h4
        rw [List.append_nil] at f
        exact f.now r (back (us := vs) a1)
    · cases ho
  · cases ho
theorem o_sub : OpR X (binaryOp .Sub) (rO2 p subO) := by
  intro pins s σ H x y v u Q I rx ry h
  obtain ⟨σ', g, s', d, e, z, r, a1, a2, ho, f⟩ := h
  unfold subO at ho
  split at ho
  · cases ho
    cases a1.int
    cases a2.int
    exact op_sub pins s σ H _ _ v u Q I rx ry ⟨_, _, rfl, rfl, f.now r (.int _)⟩
  · cases ho
theorem RVs.rep {K : Kx} {F : Hp} {φ : List Addr} {xs : List D} {vs : List V} (h : RVs K F φ xs vs) : ∀ n : Nat, RVs K F φ (List.replicate n xs).flatten (List.replicate n vs).flatten
  | 0 => .nil
  | n + 1 => by
    rw [List.replicate_succ, List.replicate_succ, List.flatten_cons, List.flatten_cons]
    exact h.append (RVs.rep h n)
theorem o_mul : OpR X (binaryOp .Mult) (rO2 p mulO) := by
  intro pins s σ H x y v u Q I rx ry h
  obtain ⟨σ', g, s', d, e, z, r, a1, a2, ho, f⟩ := h
  unfold mulO at ho
  split at ho
  · split at ho
    · cases ho
      cases a1.int
      cases a2.int
      exact op_mulW pins s σ H _ _ v u Q I rx ry ⟨_, _, rfl, rfl, mulOk.ok (by assumption), f.now r (.int _)⟩
    · cases ho
  · split at ho
    · rename_i hc
      cases ho
      obtain ⟨a, vs, rfl, h1, h2⟩ := a1.tup r.m
      cases a2.int
      have l1 := h2.length
      refine op_repT pins s σ H _ _ v u Q I rx ry ⟨a, _, vs, rfl, rfl, h1, fun e => hc.2.2.2 ?_, hc.1, hc.2.1, by omega, fun q hq => f.tup r (h2.rep _) hq⟩
      rw [e] at l1
      exact List.eq_nil_of_length_eq_zero l1
    · cases ho
  · cases ho
theorem o_fdiv : OpR X (binaryOp .FloorDiv) (rO2 p fdivO) := by
  intro pins s σ H x y v u Q I rx ry h
  obtain ⟨σ', g, s', d, e, z, r, a1, a2, ho, f⟩ := h
  unfold fdivO at ho
  split at ho
  · split at ho
    · rename_i hc
      cases ho
      cases a1.int
      cases a2.int
      obtain ⟨t, rfl⟩ := rx
      obtain ⟨t', rfl⟩ := ry
      have hc' := Bool.and_eq_true_iff.mp hc
      exact floordiv_int (of_decide_eq_true hc'.1) ⟨.int _, H, I.tok _, ⟨_, rfl⟩, f.now r (.int _)⟩ (.inl (PyProof.noPylong_of_log2 (of_decide_eq_true hc'.2)))
    · cases ho
  · cases ho
theorem o_mod : OpR X (binaryOp .Mod) (rO2 p modO) := by
  intro pins s σ H x y v u Q I rx ry h
  obtain ⟨σ', g, s', d, e, z, r, a1, a2, ho, f⟩ := h
  unfold modO at ho
  split at ho
  · split at ho
    · cases ho
      cases a1.int
      cases a2.int
      exact op_modN pins s σ H _ _ v u Q I rx ry ⟨_, _, rfl, rfl, by assumption, f.now r (.int _)⟩
    · cases ho
  · cases ho
theorem o_pow : OpR X (binaryOp .Pow) (rO2 p powO) := by
  intro pins s σ H x y v u Q I rx ry h
  obtain ⟨σ', g, s', d, e, z, r, a1, a2, ho, f⟩ := h
  unfold powO at ho
  split at ho
  · split at ho
    · rename_i i j hc
      cases ho
      cases a1.int
      cases a2.int
      obtain ⟨t, rfl⟩ := rx
      obtain ⟨t', rfl⟩ := ry
      have hc' := Bool.and_eq_true_iff.mp hc
      have h0 : 0 ≤ j := of_decide_eq_true hc'.1
      have h1 : (i.natAbs.log2 + 1) * j.toNat ≤ 1000000 := of_decide_eq_true hc'.2
      have h2 : Builtin.Int.intBits i * j.toNat ≤ 1000000 := Nat.le_trans (Nat.mul_le_mul_right _ (bits_le i)) h1
      have h3 : (Builtin.Int.intBits i : Int) * j ≤ 2 ^ 27 := by
        have e : j = (j.toNat : Int) := by omega
        rw [e]
        have : ((Builtin.Int.intBits i * j.toNat : Nat) : Int) ≤ 1000000 := by omega
        rw [Int.natCast_mul] at this
        omega
      exact pow_int h0 h3 ⟨.int _, H, I.tok _, ⟨_, rfl⟩, f.now r (.int _)⟩
    · cases ho
  · cases ho
theorem o_neg : UnR X (unaryOp .USub) (rO1 p negO) := by
  intro pins s σ H x v Q I rx h
  obtain ⟨σ', g, s', d, z, r, a1, ho, f⟩ := h
  unfold negO at ho
  split at ho
  · cases ho
    cases a1.int
    exact un_neg pins s σ H _ v Q I rx ⟨_, rfl, f.now r (.int _)⟩
  · cases ho
/-! ### comparisons -/
def cmpI (f : Int → Int → Bool) : O2 := fun x y _ => match x, y with
  | .int i, .int j => some (.bl (f i j))
  | _, _ => none
def ltO : O2 := fun x y _ => match x, y with
  | .int i, .int j => some (.bl (decide (i < j)))
  | .str i, .str j => some (.bl (decide (i.cps.toList < j.cps.toList)))
  | _, _ => none
def leO : O2 := fun x y _ => match x, y with
  | .int i, .int j => some (.bl (decide (i ≤ j)))
  | .str i, .str j => some (.bl (!decide (j.cps.toList < i.cps.toList)))
  | _, _ => none
def gtO : O2 := cmpI fun i j => decide (j < i)
def geO : O2 := cmpI fun i j => decide (j ≤ i)
theorem o_lt : OpR X (compareOp .Lt) (rO2 p ltO) := by
  intro pins s σ H x y v u Q I rx ry h
  obtain ⟨σ', g, s', d, e, z, r, a1, a2, ho, f⟩ := h
  unfold ltO at ho
  split at ho
  · cases ho
    cases a1.int
    cases a2.int
    exact op_lt pins s σ H _ _ v u Q I rx ry ⟨_, _, rfl, rfl, f.now r (.bl _)⟩
  · cases ho
    cases a1.str
    cases a2.str
    exact op_lt_str pins s σ H _ _ v u Q I rx ry ⟨_, _, rfl, rfl, f.now r (.bl _)⟩
  · cases ho
theorem o_le : OpR X (compareOp .LtE) (rO2 p leO) := by
  intro pins s σ H x y v u Q I rx ry h
  obtain ⟨σ', g, s', d, e, z, r, a1, a2, ho, f⟩ := h
  unfold leO at ho
  split at ho
  · cases ho
    cases a1.int
    cases a2.int
    exact op_le pins s σ H _ _ v u Q I rx ry ⟨_, _, rfl, rfl, f.now r (.bl _)⟩
  · cases ho
    cases a1.str
    cases a2.str
    exact op_le_str pins s σ H _ _ v u Q I rx ry ⟨_, _, rfl, rfl, f.now r (.bl _)⟩
  · cases ho
theorem o_gt : OpR X (compareOp .Gt) (rO2 p gtO) := by
  intro pins s σ H x y v u Q I rx ry h
  obtain ⟨σ', g, s', d, e, z, r, a1, a2, ho, f⟩ := h
  unfold gtO cmpI at ho
  split at ho
  · cases ho
    cases a1.int
    cases a2.int
    exact op_gt pins s σ H _ _ v u Q I rx ry ⟨_, _, rfl, rfl, f.now r (.bl _)⟩
  · cases ho
theorem o_ge : OpR X (compareOp .GtE) (rO2 p geO) := by
  intro pins s σ H x y v u Q I rx ry h
  obtain ⟨σ', g, s', d, e, z, r, a1, a2, ho, f⟩ := h
  unfold geO cmpI at ho
  split at ho
  · cases ho
    cases a1.int
    cases a2.int
    exact op_ge pins s σ H _ _ v u Q I rx ry ⟨_, _, rfl, rfl, f.now r (.bl _)⟩
  · cases ho
/-- == of data -/
def eqD (x y : D) : Option Bool := match x, y with
  | .str a, .str b => some (decide (a = b))
  | x, y => match x.py, y.py with
    | some a, some b => if SeqAt.shaped a && SeqAt.shaped b then some (PyData.eqv a b) else none
    | _, _ => none
def eqO : O2 := fun x y _ => (eqD x y).map .bl
def neO : O2 := fun x y _ => (eqD x y).map fun b => .bl (!b)
theorem eqD_cases {x y : D} {b : Bool} (h : eqD x y = some b) : (∃ i j, x = .str i ∧ y = .str j ∧ b = decide (i = j)) ∨ ∃ c d, x.py = some c ∧ y.py = some d ∧ SeqAt.shaped c = true ∧ SeqAt.shaped d = true ∧ b = PyData.eqv c d := by
  unfold eqD at h
  split at h
  · cases h
    exact .inl ⟨_, _, rfl, rfl, rfl⟩
  · split at h
    · split at h
      · rename_i h1 h2 hc
        cases h
        have := Bool.and_eq_true_iff.mp hc
        exact .inr ⟨_, _, h1, h2, this.1, this.2, rfl⟩
      · cases h
    · cases h
theorem o_eq (hu : X.A.units + 64 < cLine) : OpR X (compareOp .Eq) (rO2 p eqO) := by
  intro pins s σ H x y v u Q I rx ry h
  obtain ⟨σ', g, s', d, e, z, r, a1, a2, ho, f⟩ := h
  unfold eqO at ho
  cases hz : eqD d e with
  | none => rw [hz] at ho; cases ho
  | some b =>
    rw [hz] at ho
    cases ho
    rcases eqD_cases hz with ⟨i, j, rfl, rfl, rfl⟩ | ⟨c, k, h1, h2, s1, s2, rfl⟩
    · cases a1.str
      cases a2.str
      refine op_eq pins s σ H _ _ v u Q I rx ry ⟨rfl, ?_⟩
      rw [show decide (V.str i = V.str j) = decide (i = j) by simp]
      exact f.now r (.bl _)
    · exact op_eqD hu pins s σ H _ _ v u Q I rx ry ⟨c, k, a1.dp r.m h1, a2.dp r.m h2, s1, s2, f.now r (.bl _)⟩
theorem o_ne (hu : X.A.units + 64 < cLine) : OpR X (compareOp .NotEq) (rO2 p neO) := by
  intro pins s σ H x y v u Q I rx ry h
  obtain ⟨σ', g, s', d, e, z, r, a1, a2, ho, f⟩ := h
  unfold neO at ho
  cases hz : eqD d e with
  | none => rw [hz] at ho; cases ho
  | some b =>
    rw [hz] at ho
    cases ho
    rcases eqD_cases hz with ⟨i, j, rfl, rfl, rfl⟩ | ⟨c, k, h1, h2, s1, s2, rfl⟩
    · cases a1.str
      cases a2.str
      refine op_ne pins s σ H _ _ v u Q I rx ry ⟨rfl, ?_⟩
      rw [show decide (V.str i = V.str j) = decide (i = j) by simp]
      exact f.now r (.bl _)
    · exact op_neD hu pins s σ H _ _ v u Q I rx ry ⟨c, k, a1.dp r.m h1, a2.dp r.m h2, s1, s2, f.now r (.bl _)⟩
/-- x in y -/
def inD (x y : D) : Option Bool := match x, y with
  | .str a, .str b => some (!(Builtin.Str.occurrences b a 0 b.length 1).isEmpty)
  | x, y => match x.py, y.py with
    | some a, some (.list bs) => if SeqAt.shaped a && SeqAt.shaped (.list bs) then some (bs.any fun z => PyData.eqv z a) else none
    | some a, some (.tuple bs) => if SeqAt.shaped a && SeqAt.shaped (.tuple bs) then some (bs.any fun z => PyData.eqv z a) else none
    | _, _ => none
def inO : O2 := fun x y _ => (inD x y).map .bl
def ninO : O2 := fun x y _ => (inD x y).map fun b => .bl (!b)
theorem inD_cases {x y : D} {b : Bool} (h : inD x y = some b) : (∃ i j, x = .str i ∧ y = .str j ∧ b = (!(Builtin.Str.occurrences j i 0 j.length 1).isEmpty)) ∨
    (∃ c ds, x.py = some c ∧ y.py = some (.list ds) ∧ SeqAt.shaped c = true ∧ SeqAt.shaped (.list ds) = true ∧ b = ds.any fun z => PyData.eqv z c) ∨
    (∃ c ds, x.py = some c ∧ y.py = some (.tuple ds) ∧ SeqAt.shaped c = true ∧ SeqAt.shaped (.tuple ds) = true ∧ b = ds.any fun z => PyData.eqv z c) := by
  unfold inD at h
  split at h
  · cases h
    exact .inl ⟨_, _, rfl, rfl, rfl⟩
  · split at h
    · split at h
      · rename_i h1 h2 hc
        cases h
        have := Bool.and_eq_true_iff.mp hc
        exact .inr (.inl ⟨_, _, h1, h2, this.1, this.2, rfl⟩)
      · cases h
    · split at h
      · rename_i h1 h2 hc
        cases h
        have := Bool.and_eq_true_iff.mp hc
        exact .inr (.inr ⟨_, _, h1, h2, this.1, this.2, rfl⟩)
      · cases h
    · cases h
theorem room_min {A : Around} {c d : PyData} (h : SeqAt.shaped c = true) (hu : A.units + 65 < cLine) (n : Nat) : A.units + 1 + min n c.depth < cLine := by
  have := SeqAt.depth_of_shaped h
  have : min n c.depth ≤ c.depth := Nat.min_le_right _ _
  omega
theorem o_in (hu : X.A.units + 65 < cLine) : OpR X (compareOp .In) (rO2 p inO) := by
  intro pins s σ H x y v u Q I rx ry h
  obtain ⟨σ', g, s', d, e, z, r, a1, a2, ho, f⟩ := h
  unfold inO at ho
  cases hz : inD d e with
  | none => rw [hz] at ho; cases ho
  | some b =>
    rw [hz] at ho
    cases ho
    rcases inD_cases hz with ⟨i, j, rfl, rfl, rfl⟩ | ⟨c, ds, h1, h2, s1, s2, rfl⟩ | ⟨c, ds, h1, h2, s1, s2, rfl⟩
    · cases a1.str
      cases a2.str
      exact op_in_str pins s σ H _ _ v u Q I rx ry ⟨_, _, rfl, rfl, f.now r (.bl _)⟩
    · exact op_inD hu pins s σ H _ _ v u Q I rx ry ⟨c, ds, a1.dp r.m h1, a2.dp r.m h2, s1, s2, f.now r (.bl _)⟩
    · obtain ⟨as, r1⟩ := Dp.reads I c x v (a1.dp r.m h1) rx
      obtain ⟨bs, r2⟩ := Dp.reads I (.tuple ds) y u (a2.dp r.m h2) ry
      exact SeqAt.in_tuple_reads r2 r1 (SeqAt.canLay_of_shaped s2) (SeqAt.canLay_of_shaped s1) (room_min (d := c) s1 hu _) ⟨.bl _, H, I, rfl, f.now r (.bl _)⟩
theorem o_nin (hu : X.A.units + 65 < cLine) : OpR X (compareOp .NotIn) (rO2 p ninO) := by
  intro pins s σ H x y v u Q I rx ry h
  obtain ⟨σ', g, s', d, e, z, r, a1, a2, ho, f⟩ := h
  unfold ninO at ho
  cases hz : inD d e with
  | none => rw [hz] at ho; cases ho
  | some b =>
    rw [hz] at ho
    cases ho
    rcases inD_cases hz with ⟨i, j, rfl, rfl, rfl⟩ | ⟨c, ds, h1, h2, s1, s2, rfl⟩ | ⟨c, ds, h1, h2, s1, s2, rfl⟩
    · cases a1.str
      cases a2.str
      exact op_notin_str pins s σ H _ _ v u Q I rx ry ⟨_, _, rfl, rfl, f.now r (.bl _)⟩
    · exact op_notInD hu pins s σ H _ _ v u Q I rx ry ⟨c, ds, a1.dp r.m h1, a2.dp r.m h2, s1, s2, f.now r (.bl _)⟩
    · obtain ⟨as, r1⟩ := Dp.reads I c x v (a1.dp r.m h1) rx
      obtain ⟨bs, r2⟩ := Dp.reads I (.tuple ds) y u (a2.dp r.m h2) ry
      exact SeqAt.notIn_tuple_reads r2 r1 (SeqAt.canLay_of_shaped s2) (SeqAt.canLay_of_shaped s1) (room_min (d := c) s1 hu _) ⟨.bl _, H, I, rfl, f.now r (.bl _)⟩
end
end Mp

set_option Elab.async false
set_option linter.all false
set_option maxRecDepth 100000
set_option maxHeartbeats 4000000
namespace Mp
open PySem PySem.Spec L2
open PyProof.Rows hiding St

theorem RVp.tupV {K : Kx} {g : G} {H : Hp} {ds : List D} {v : V} (h : RVp K g H (.tup ds) v) : RV K g.F g.φ (.tup ds) v := by
  rcases h with h | ⟨_, _, _, e, _⟩
  · exact h
  · cases e
/-! ### truth -/
def truO (x : D) (s : S) : Option Bool := match x with
  | .non => some false
  | .bl b => some b
  | .int i => some (i != 0)
  | .str x => if x.length ≤ 100000 then some ((x.length : Int) != 0) else none
  | .tup xs => some (!xs.isEmpty)
  | .lst xs => some (!xs.isEmpty)
  | .scr xs => some (!xs.isEmpty)
  | .dct => some false
  | .ref n => (s.ms[n]?).map fun xs => !xs.isEmpty
  | _ => none
def truM (x : D) : M Bool := fun s => match truO x s with
  | some b => .ok b s
  | none => .stuck
theorem RVs.emp {K : Kx} {F : Hp} {φ : List Addr} {ds : List D} {vs : List V} (h : RVs K F φ ds vs) : (!ds.isEmpty) = !vs.isEmpty := by
  cases h <;> rfl
theorem truV_of {K : Kx} {g : G} {H : Hp} {s : S} {x : D} {v : V} {k : Bool} (m : RM K g H s.ms) (r : RVp K g H x v) (h : truO x s = some k) : TruV K.K v H k := by
  cases x with
  | non => cases r.non; cases h; rfl
  | bl b => cases r.bl; cases h; rfl
  | int i => cases r.int; cases h; rfl
  | str y =>
    cases r.str
    unfold truO at h
    by_cases hl : y.length ≤ 100000
    · simp only [if_pos hl] at h
      cases h
      exact ⟨szL hl, rfl⟩
    · simp only [if_neg hl] at h
      cases h
  | tup xs =>
    obtain ⟨a, vs, rfl, h1, h2⟩ := r.tup m
    cases h
    exact .inr (.inl ⟨vs, h1, h2.emp⟩)
  | lst xs =>
    obtain ⟨a, vs, rfl, h1, h2⟩ := r.lst m
    cases h
    exact .inl ⟨vs, SqL.of h1, h2.emp⟩
  | scr xs =>
    obtain ⟨a, vs, rfl, h1, h2⟩ := r.scr m
    cases h
    exact .inl ⟨vs, h1, h2.emp⟩
  | dct =>
    obtain ⟨a, rfl, h1⟩ := r.dct m
    cases h
    exact .inr (.inr ⟨[], h1, rfl⟩)
  | ref n =>
    obtain ⟨a, ds, vs, rfl, h1, h2, h3, h4⟩ := r.ref m
    have h : Option.map (fun xs : List D => !xs.isEmpty) s.ms[n]? = some k := h
    rw [h2] at h
    cases h
    exact .inl ⟨vs, SqL.of h3, h4.emp⟩
  | obj a => cases h
  | clo L n => cases h
def testM (f : M D) : M Bool := bnd f truM
def andB (f h : M Bool) : M Bool := bnd f fun b => if b then h else ret false
def orB (f h : M Bool) : M Bool := bnd f fun b => if b then ret true else h
def notB (f : M Bool) : M Bool := bnd f fun b => ret (!b)
def andV (f h : M D) : M D := bnd f fun x => bnd (truM x) fun k => if k then h else ret x
def orV (f h : M D) : M D := bnd f fun x => bnd (truM x) fun k => if k then ret x else h
def notV (f : M D) : M D := bnd f fun x => bnd (truM x) fun k => ret (.bl (!k))
def ifV (t : M Bool) (f h : M D) : M D := bnd t fun b => if b then f else h
theorem truM_fin {K : Kx} {p : Pm K} {σ : L2.St} {g : G} {H : Hp} {s : S} {γ δ : Type} {A' : γ → δ → G → Hp → G → Hp → Prop} {x : D} {k : Bool → M γ} {Q : δ → Hp → Prop} (h : Post p σ A' (bnd (truM x) k s) g H Q) :
    ∃ b, truO x s = some b ∧ Post p σ A' (k b s) g H Q := by
  unfold bnd truM at h
  cases z : truO x s with
  | none => rw [z] at h; exact h.elim
  | some b =>
    rw [z] at h
    exact ⟨b, rfl, h⟩
section
variable {X : Cx} {lt : Nat → LamI} {p : Pm ⟨X.K, lt⟩} {e a b c : Expr} {rest : List Expr} {pos : Pos} {fa fb fc : M D} {ba bb : M Bool}
theorem b_test (ha : PE X a (tP p fa)) (he : ∀ whole, isTrue a X.env whole = (do let v ← whole; standAt a.pos; holding [v] (truthy v)) := by intro _; rfl) : PT X a (tB p (testM fa)) := (pt_truth ha he).imp fun σ H Q q => by
  obtain ⟨g, s, r, q⟩ := seqP preB q
  refine ⟨g, s, r, Post.mono q fun v H1 ⟨g1, s1, x, r1, a1, q1⟩ => ?_⟩
  unfold truM at q1
  cases z : truO x s1 with
  | none => rw [z] at q1; exact q1.elim
  | some k =>
    rw [z] at q1
    exact ⟨k, truV_of r1.m a1 z, q1 k H1 g1 r1 (.refl _ _) rfl⟩
theorem b_and1 (ha : PT X a (tB p ba)) : PW X (.BoolOp .And [a] pos) (tB p ba) := pw_and1 ha
theorem b_or1 (ha : PT X a (tB p ba)) : PW X (.BoolOp .Or [a] pos) (tB p ba) := pw_or1 ha
theorem b_and (ha : PT X a (tB p ba)) (hb : PW X (.BoolOp .And (b :: rest) pos) (tB p bb)) : PW X (.BoolOp .And (a :: b :: rest) pos) (tB p (andB ba bb)) := (pw_and ha hb).imp fun σ H Q q => by
  obtain ⟨g, s, r, q⟩ := seqB preB q
  refine ⟨g, s, r, Post.mono q fun b H1 ⟨g1, s1, r1, q1⟩ => ?_⟩
  cases b with
  | true =>
    rw [if_pos rfl] at q1
    rw [if_pos rfl]
    exact ⟨g1, s1, r1, q1⟩
  | false =>
    rw [if_neg Bool.false_ne_true] at q1
    rw [if_neg Bool.false_ne_true]
    exact q1 false H1 g1 r1 (.refl _ _) rfl
theorem b_or (ha : PT X a (tB p ba)) (hb : PW X (.BoolOp .Or (b :: rest) pos) (tB p bb)) : PW X (.BoolOp .Or (a :: b :: rest) pos) (tB p (orB ba bb)) := (pw_or ha hb).imp fun σ H Q q => by
  obtain ⟨g, s, r, q⟩ := seqB preB q
  refine ⟨g, s, r, Post.mono q fun b H1 ⟨g1, s1, r1, q1⟩ => ?_⟩
  cases b with
  | true =>
    rw [if_pos rfl] at q1
    rw [if_pos rfl]
    exact q1 true H1 g1 r1 (.refl _ _) rfl
  | false =>
    rw [if_neg Bool.false_ne_true] at q1
    rw [if_neg Bool.false_ne_true]
    exact ⟨g1, s1, r1, q1⟩
theorem b_not (ha : PT X a (tB p ba)) : PT X (.UnaryOp .Not a pos) (tB p (notB ba)) := (pt_not ha).imp fun σ H Q q => by
  obtain ⟨g, s, r, q⟩ := seqB preB q
  exact ⟨g, s, r, Post.mono q fun b H1 ⟨g1, s1, r1, q1⟩ => q1 (!b) H1 g1 r1 (.refl _ _) rfl⟩
theorem d_one {op} (ha : PE X a (tD p fa)) : PE X (.BoolOp op [a] pos) (tD p fa) := pe_one ha
theorem d_and (ha : PE X a (tD p fa)) (hb : PE X (.BoolOp .And (b :: rest) pos) (tD p fb)) : PE X (.BoolOp .And (a :: b :: rest) pos) (tD p (andV fa fb)) := (pe_andT ha hb).imp fun σ H Q q => by
  obtain ⟨g, s, r, q⟩ := seqV preV q
  refine ⟨g, s, r, Post.mono q fun v H1 ⟨g1, s1, x, r1, a1, q1⟩ => ?_⟩
  obtain ⟨k, z, q2⟩ := truM_fin q1
  refine ⟨k, truV_of r1.m (.inl a1) z, ?_⟩
  cases k with
  | true =>
    rw [if_pos rfl] at q2
    rw [if_pos rfl]
    exact ⟨g1, s1, r1, q2⟩
  | false =>
    rw [if_neg Bool.false_ne_true] at q2
    rw [if_neg Bool.false_ne_true]
    exact q2 v H1 g1 r1 (.refl _ _) a1
theorem d_or (ha : PE X a (tD p fa)) (hb : PE X (.BoolOp .Or (b :: rest) pos) (tD p fb)) : PE X (.BoolOp .Or (a :: b :: rest) pos) (tD p (orV fa fb)) := (pe_orT ha hb).imp fun σ H Q q => by
  obtain ⟨g, s, r, q⟩ := seqV preV q
  refine ⟨g, s, r, Post.mono q fun v H1 ⟨g1, s1, x, r1, a1, q1⟩ => ?_⟩
  obtain ⟨k, z, q2⟩ := truM_fin q1
  refine ⟨k, truV_of r1.m (.inl a1) z, ?_⟩
  cases k with
  | true =>
    rw [if_pos rfl] at q2
    rw [if_pos rfl]
    exact q2 v H1 g1 r1 (.refl _ _) a1
  | false =>
    rw [if_neg Bool.false_ne_true] at q2
    rw [if_neg Bool.false_ne_true]
    exact ⟨g1, s1, r1, q2⟩
theorem d_not (ha : PE X a (tP p fa)) : PE X (.UnaryOp .Not a pos) (tD p (notV fa)) := (pe_notT ha).imp fun σ H Q q => by
  obtain ⟨g, s, r, q⟩ := seqP preV q
  refine ⟨g, s, r, Post.mono q fun v H1 ⟨g1, s1, x, r1, a1, q1⟩ => ?_⟩
  obtain ⟨k, z, q2⟩ := truM_fin q1
  exact ⟨k, truV_of r1.m a1 z, q2 _ H1 g1 r1 (.refl _ _) (.bl _)⟩
theorem d_if (hc : PT X c (tB p ba)) (ha : PE X a (tD p fa)) (hb : PE X b (tD p fb)) : PE X (.IfExp c a b pos) (tD p (ifV ba fa fb)) := (pe_ifExp hc ha hb).imp fun σ H Q q => by
  obtain ⟨g, s, r, q⟩ := seqB preV q
  refine ⟨g, s, r, Post.mono q fun k H1 ⟨g1, s1, r1, q1⟩ => ?_⟩
  cases k with
  | true =>
    rw [if_pos rfl] at q1
    rw [if_pos rfl]
    exact ⟨g1, s1, r1, q1⟩
  | false =>
    rw [if_neg Bool.false_ne_true] at q1
    rw [if_neg Bool.false_ne_true]
    exact ⟨g1, s1, r1, q1⟩
/-! ### subscripts -/
def subsO : O2 := fun x y s => match x, y with
  | .tup xs, .int i => atI xs i
  | .lst xs, .int i => atI xs i
  | .scr xs, .int i => atI xs i
  | .ref n, .int i => (s.ms[n]?).bind fun xs => atI xs i
  | .str z, .int i => if z.length ≤ 100000 then (atI z.cps.toList i).map fun c => .str ⟨#[c]⟩ else none
  | _, _ => none
theorem RVs.atI {K : Kx} {F : Hp} {φ : List Addr} {ds : List D} {vs : List V} {i : Int} {d : D} (h : RVs K F φ ds vs) (e : L2.atI ds i = some d) : ∃ v, L2.atI vs i = some v ∧ RV K F φ d v := by
  have hl := h.length
  unfold L2.atI at e ⊢
  rw [← hl]
  cases z : ixN ds.length i with
  | none => rw [z] at e; cases e
  | some j =>
    rw [z] at e
    exact h.getD e
theorem o_subs : IxR X (rO2 p subsO) := by
  intro e1 e2 pins s σ H x y v u Q I rx ry h hp
  obtain ⟨σ', g, s', d, e, z, r, a1, a2, ho, f⟩ := h
  unfold subsO at ho
  split at ho
  · obtain ⟨a, vs, rfl, h1, h2⟩ := a1.tup r.m
    cases a2.int
    obtain ⟨w, h3, h4⟩ := h2.atI ho
    exact ix_tup e1 e2 pins s σ H _ _ v u Q I rx ry ⟨a, vs, _, w, rfl, rfl, h1, h3, f.now r h4⟩ hp
  · obtain ⟨a, vs, rfl, h1, h2⟩ := a1.lst r.m
    cases a2.int
    obtain ⟨w, h3, h4⟩ := h2.atI ho
    exact ix_list e1 e2 pins s σ H _ _ v u Q I rx ry ⟨a, vs, _, w, rfl, rfl, SqL.of h1, h3, f.now r h4⟩ hp
  · obtain ⟨a, vs, rfl, h1, h2⟩ := a1.scr r.m
    cases a2.int
    obtain ⟨w, h3, h4⟩ := h2.atI ho
    exact ix_list e1 e2 pins s σ H _ _ v u Q I rx ry ⟨a, vs, _, w, rfl, rfl, h1, h3, f.now r h4⟩ hp
  · obtain ⟨a, ds, vs, rfl, h1, h2, h3, h4⟩ := a1.ref r.m
    cases a2.int
    rw [h2] at ho
    obtain ⟨w, h5, h6⟩ := h4.atI ho
    exact ix_list e1 e2 pins s σ H _ _ v u Q I rx ry ⟨a, vs, _, w, rfl, rfl, SqL.of h3, h5, f.now r h6⟩ hp
  · cases a1.str
    cases a2.int
    split at ho
    · rename_i hl
      cases hz : L2.atI (α := Nat) _ _ with
      | none => rw [hz] at ho; cases ho
      | some c =>
        rw [hz] at ho
        cases ho
        exact ix_str e1 e2 pins s σ H _ _ v u Q I rx ry ⟨_, _, c, rfl, rfl, szL hl, hz, f.now r (.str _)⟩ hp
    · cases ho
  · cases ho
theorem d_subs (ha : PE X a (tP p fa)) (hb : PE X b (tP p fb)) (hs : PlainIx b := by intro _ _; rfl) : PE X (.Subscript a b pos) (tD p (op2 subsO fa fb)) := (pe_ix o_subs ha hb hs).imp fun _ _ _ q => use2 q
/-! ### slices -/
def cutD {α : Type} (xs : List α) (lo hi : Option Int) : List α := (xs.drop (HT.sIx xs.length 0 lo)).take (HT.sIx xs.length xs.length hi - HT.sIx xs.length 0 lo)
def slO (x : D) (lo hi : Option Int) : Option D := match x with
  | .tup xs => some (.tup (cutD xs lo hi))
  | .lst xs => some (.lst (cutD xs lo hi))
  | .str z => if z.length ≤ 100000 then some (.str (cutS z lo hi)) else none
  | _ => none
def partN : M (Option Int) := ret none
def partS (f : M D) : M (Option Int) := bnd f fun x => lift (match x with | .int i => some (some i) | _ => none)
def sliceM (f : M D) (l h : M (Option Int)) : M D := bnd f fun x => bnd l fun lo => bnd h fun hi => lift (slO x lo hi)
abbrev AO : Option Int → Option Int → G → Hp → G → Hp → Prop := fun d v _ _ _ _ => v = d
abbrev tO {K : Kx} (p : Pm K) (f : M (Option Int)) : TO := tG p AO f
theorem preO : Pre AO := fun _ _ _ _ _ _ _ _ _ a => a
theorem po_no : PO X none (tO p partN) := ⟨fun pins s σ H Q I h => po_none.run pins s σ H Q I (by
  obtain ⟨g, s, r, q⟩ := h
  exact q none H g r (.refl _ _) rfl)⟩
theorem po_so (ha : PE X a (tP p fa)) : PO X (some a) (tO p (partS fa)) := ⟨fun pins s σ H Q I h => (po_some ha).run pins s σ H Q I (by
  obtain ⟨g, s, r, q⟩ := seqP preO h
  refine ⟨g, s, r, Post.mono q fun v H1 ⟨g1, s1, x, r1, a1, q1⟩ => ?_⟩
  unfold lift at q1
  cases x with
  | int i =>
    cases a1.int
    exact ⟨i, rfl, q1 _ H1 g1 r1 (.refl _ _) rfl⟩
  | _ => exact q1.elim)⟩
theorem Fin.lst {K : Kx} {p : Pm K} {σ : L2.St} {g : G} {H : Hp} {s : S} {ds : List D} {vs : List V} {Q : VK} (h : Fin p σ g H s (.lst ds) Q) (r : RS p g σ H s) (rv : RVs K g.F g.φ ds vs) {q : Addr} (hq : H q = none) : Q (.ref q) (upd H q (.lst vs)) :=
  h _ _ _ (r.add hq _) (r.addE hq _) (.lst G.add_same (RVs.up (r.m.addUp hq _) ⟨[], by simp [G.add]⟩ _ _ rv))
def rSl {K : Kx} (p : Pm K) : V → Option Int → Option Int → Hp → VK → Prop := fun v lo hi H Q => ∃ σ g s x d, RS p g σ H s ∧ RVp K g H x v ∧ slO x lo hi = some d ∧ Fin p σ g H s d Q
theorem RVs.cut {K : Kx} {F : Hp} {φ : List Addr} {ds : List D} {vs : List V} (h : RVs K F φ ds vs) (lo hi : Option Int) : RVs K F φ (cutD ds lo hi) (cutV vs lo hi) := by
  unfold cutD cutV
  rw [← h.length]
  exact (h.drop _).take _
theorem cut_whole {α : Type} (xs : List α) (lo hi : Option Int) (h1 : HT.sIx xs.length 0 lo = 0) (h2 : HT.sIx xs.length xs.length hi = xs.length) : cutD xs lo hi = xs := by
  unfold cutD
  rw [h1, h2, List.drop_zero, Nat.sub_zero, List.take_length]
theorem o_sl : SlR X (rSl p) := by
  intro pins s σ H x v vl vu lo hi sl Q I rx hs pl pu h
  obtain ⟨σ', g, s', d, z, r, a1, ho, f⟩ := h
  unfold slO at ho
  split at ho
  · cases ho
    obtain ⟨a, vs, rfl, h1, h2⟩ := a1.tup r.m
    have back := a1.tupV
    refine sl_tupA pins s σ H _ v vl vu lo hi sl Q I rx hs pl pu ⟨a, vs, rfl, h1, fun hw => ?_, fun _ q hq => f.tup r (h2.cut lo hi) hq⟩
    rw [← h2.length] at hw
    rw [cut_whole _ _ _ hw.1 hw.2] at f
    exact f.now r back
  · cases ho
    obtain ⟨a, vs, rfl, h1, h2⟩ := a1.lst r.m
    exact sl_list pins s σ H _ v vl vu lo hi sl Q I rx hs pl pu ⟨a, vs, rfl, SqL.of h1, fun q hq => f.lst r (h2.cut lo hi) hq⟩
  · split at ho
    · cases ho
      cases a1.str
      exact sl_str pins s σ H _ v vl vu lo hi sl Q I rx hs pl pu ⟨_, rfl, szL (by assumption), f.now r (.str _)⟩
    · cases ho
  · cases ho
theorem d_slice {lo hi : Option Expr} {p2 : Pos} {ml mh : M (Option Int)} (ha : PE X a (tP p fa)) (hl : PO X lo (tO p ml)) (hh : PO X hi (tO p mh)) : PE X (.Subscript a (.Slice lo hi none p2) pos) (tD p (sliceM fa ml mh)) := (pe_slice o_sl ha hl hh).imp fun σ H Q q => by
  obtain ⟨g, s, r, q⟩ := seqP preV q
  refine ⟨g, s, r, Post.mono q fun v H1 ⟨g1, s1, x, r1, a1, q1⟩ => ?_⟩
  refine ⟨g1, s1, r1, Post.mono (Post.bnd (A := AO) preV q1) fun l H2 ⟨g2, s2, l', r2, e2, a2, q2⟩ => ?_⟩
  subst a2
  refine ⟨g2, s2, r2, Post.mono (Post.bnd (A := AO) preV q2) fun h H3 ⟨g3, s3, h', r3, e3, a3, q3⟩ => ?_⟩
  subst a3
  unfold lift at q3
  cases z : slO x l h with
  | none => rw [z] at q3; exact q3.elim
  | some d =>
    rw [z] at q3
    exact ⟨σ, g3, s3, x, d, r3, (a1.ext e2).ext e3, z, q3⟩
/-- xs[::-1] of a list -/
def revM (f : M D) : M D := bnd f fun x => lift (match x with | .lst xs => some (.lst xs.reverse) | _ => none)
theorem d_rev {k : Nat} {p1 p2 p3 : Pos} (ha : PE X a (tP p fa)) : PE X (.Subscript a (.Slice none none (some (.UnaryOp .USub (.Constant (.int 1) k p1) p2)) p3) pos) (tD p (revM fa)) := (pe_revL ha).imp fun σ H Q q => by
  obtain ⟨g, s, r, q⟩ := seqP preV q
  refine ⟨g, s, r, Post.mono q fun v H1 ⟨g1, s1, x, r1, a1, q1⟩ => ?_⟩
  unfold lift at q1
  cases x with
  | lst xs =>
    obtain ⟨a, vs, rfl, h1, h2⟩ := a1.lst r1.m
    have f : Fin p σ g1 H1 s1 (.lst xs.reverse) Q := q1
    exact ⟨a, vs, rfl, SqL.of h1, fun q hq => f.lst r1 h2.reverse hq⟩
  | _ => exact q1.elim
/-! ### built-ins called -/
def rC1 {K : Kx} (p : Pm K) (o : O1) : List V → Hp → VK → Prop := fun xs H Q => ∃ v, xs = [v] ∧ rO1 p o v H Q
def rC2 {K : Kx} (p : Pm K) (o : O2) : List V → Hp → VK → Prop := fun xs H Q => ∃ v u, xs = [v, u] ∧ rO2 p o v u H Q
theorem useC1 {K : Kx} {p : Pm K} {o : O1} {fa : M D} {σ : L2.St} {H : Hp} {Q : VK} (h : tD p (op1 o fa) σ H Q) : tCB (rC1 p o) (tCons (tP p fa) tNil) σ H Q := by
  obtain ⟨g, s, r, q⟩ := use1 h
  exact ⟨g, s, r, Post.mono q fun v H1 q1 => ⟨v, rfl, q1⟩⟩
theorem useC2 {K : Kx} {p : Pm K} {o : O2} {fa fb : M D} {σ : L2.St} {H : Hp} {Q : VK} (h : tD p (op2 o fa fb) σ H Q) : tCB (rC2 p o) (tCons (tP p fa) (tCons (tP p fb) tNil)) σ H Q := by
  obtain ⟨g, s, r, q⟩ := use2 h
  refine ⟨g, s, r, Post.mono q fun v H1 ⟨g1, s1, r1, q1⟩ => ⟨g1, s1, r1, Post.mono q1 fun u H2 q2 => ⟨v, u, rfl, q2⟩⟩⟩
section
variable {x : Str} {pf : Pos} {id T : String}
theorem d_call1 {o : O1} (hc : CallR X (.builtin id) (rC1 p o)) (hg : Gl X x) (hm : X.mg x = none) (hv : bootBuiltins x = some (.builtin id)) (ha : PE X a (tP p fa)) (hn : x ≠ "__name__" := by decide) (hdb : (x == ("__debug__" : Str)) = false := by decide)
    (he : starEach (a :: []) X.env = (false, eval a X.env) :: starEach [] X.env := by rfl) : PE X (.Call (.Name x pf) [a] [] pos) (tD p (op1 o fa)) := (pe_callB hc hg hm hv (pa_cons ha pa_nil he) hn hdb he).imp fun _ _ _ q => useC1 q
theorem d_callT1 {o : O1} (hc : CallR X (.type T) (rC1 p o)) (hg : Gl X x) (hm : X.mg x = none) (hv : bootBuiltins x = some (.type T)) (ha : PE X a (tP p fa)) (hn : x ≠ "__name__" := by decide) (hdb : (x == ("__debug__" : Str)) = false := by decide)
    (he : starEach (a :: []) X.env = (false, eval a X.env) :: starEach [] X.env := by rfl) : PE X (.Call (.Name x pf) [a] [] pos) (tD p (op1 o fa)) := (pe_callTy hc hg hm hv (pa_cons ha pa_nil he) hn hdb he).imp fun _ _ _ q => useC1 q
theorem d_call2 {o : O2} (hc : CallR X (.builtin id) (rC2 p o)) (hg : Gl X x) (hm : X.mg x = none) (hv : bootBuiltins x = some (.builtin id)) (ha : PE X a (tP p fa)) (hb : PE X b (tP p fb)) (hn : x ≠ "__name__" := by decide) (hdb : (x == ("__debug__" : Str)) = false := by decide)
    (he : starEach (a :: [b]) X.env = (false, eval a X.env) :: starEach [b] X.env := by rfl) (he2 : starEach (b :: []) X.env = (false, eval b X.env) :: starEach [] X.env := by rfl) (hpl : (backTo pos (starEach [b] X.env)).any (·.1) = false := by rfl) :
    PE X (.Call (.Name x pf) [a, b] [] pos) (tD p (op2 o fa fb)) := (pe_callB hc hg hm hv (pa_cons ha (pa_cons hb pa_nil he2) he) hn hdb he hpl).imp fun _ _ _ q => useC2 q
/-- a built-in function that a module's name holds (math.gcd) -/
theorem d_callM2 {o : O2} (hc : CallR X (.builtin id) (rC2 p o)) (hg : Gl X x) (hm : X.mg x = some (.builtin id)) (ha : PE X a (tP p fa)) (hb : PE X b (tP p fb)) (hdb : (x == ("__debug__" : Str)) = false := by decide)
    (he : starEach (a :: [b]) X.env = (false, eval a X.env) :: starEach [b] X.env := by rfl) (he2 : starEach (b :: []) X.env = (false, eval b X.env) :: starEach [] X.env := by rfl) (hpl : (backTo pos (starEach [b] X.env)).any (·.1) = false := by rfl) :
    PE X (.Call (.Name x pf) [a, b] [] pos) (tD p (op2 o fa fb)) := (pe_callBfun hc hg hm (pa_cons ha (pa_cons hb pa_nil he2) he) hdb he hpl).imp fun _ _ _ q => useC2 q
end
def lenO : O1 := fun x s => match x with
  | .tup xs => some (.int xs.length)
  | .lst xs => some (.int xs.length)
  | .scr xs => some (.int xs.length)
  | .ref n => (s.ms[n]?).map fun xs => .int xs.length
  | .str z => if z.length ≤ 100000 then some (.int z.length) else none
  | _ => none
theorem c_len : CallR X (.builtin "len") (rC1 p lenO) := by
  intro pins s σ H xs us Q I r0 h
  obtain ⟨v, rfl, σ', g, s', d, z, r, a1, ho, f⟩ := h
  unfold lenO at ho
  split at ho
  · cases ho
    obtain ⟨a, vs, rfl, h1, h2⟩ := a1.tup r.m
    exact call_len pins s σ H _ us Q I r0 ⟨_, vs.length, rfl, .inr ⟨vs, h1, rfl⟩, by rw [← h2.length]; exact f.now r (.int _)⟩
  · cases ho
    obtain ⟨a, vs, rfl, h1, h2⟩ := a1.lst r.m
    exact call_len pins s σ H _ us Q I r0 ⟨_, vs.length, rfl, .inl ⟨vs, SqL.of h1, rfl⟩, by rw [← h2.length]; exact f.now r (.int _)⟩
  · cases ho
    obtain ⟨a, vs, rfl, h1, h2⟩ := a1.scr r.m
    exact call_len pins s σ H _ us Q I r0 ⟨_, vs.length, rfl, .inl ⟨vs, h1, rfl⟩, by rw [← h2.length]; exact f.now r (.int _)⟩
  · obtain ⟨a, ds, vs, rfl, h1, h2, h3, h4⟩ := a1.ref r.m
    rw [h2] at ho
    cases ho
    exact call_len pins s σ H _ us Q I r0 ⟨_, vs.length, rfl, .inl ⟨vs, SqL.of h3, rfl⟩, by rw [← h4.length]; exact f.now r (.int _)⟩
  · split at ho
    · cases ho
      cases a1.str
      exact call_len pins s σ H _ us Q I r0 ⟨_, _, rfl, ⟨szL (by assumption), rfl⟩, f.now r (.int _)⟩
    · cases ho
  · cases ho
def absO : O1 := fun x _ => match x with
  | .int i => some (.int (if i < 0 then -i else i))
  | _ => none
theorem c_abs : CallR X (.builtin "abs") (rC1 p absO) := by
  intro pins s σ H xs us Q I r0 h
  obtain ⟨v, rfl, σ', g, s', d, z, r, a1, ho, f⟩ := h
  unfold absO at ho
  split at ho
  · cases ho
    cases a1.int
    exact call_abs pins s σ H _ us Q I r0 ⟨_, rfl, f.now r (.int _)⟩
  · cases ho
def maxO : O2 := fun x y _ => match x, y with
  | .int i, .int j => some (.int (if j > i then j else i))
  | _, _ => none
def minO : O2 := fun x y _ => match x, y with
  | .int i, .int j => some (.int (if j < i then j else i))
  | _, _ => none
theorem c_max (hc : X.calm = true) : CallR X (.builtin "max") (rC2 p maxO) := by
  intro pins s σ H xs us Q I r0 h
  obtain ⟨v, u, rfl, σ', g, s', d, e, z, r, a1, a2, ho, f⟩ := h
  unfold maxO at ho
  split at ho
  · cases ho
    cases a1.int
    cases a2.int
    exact call_max2 hc pins s σ H _ us Q I r0 ⟨_, _, rfl, f.now r (.int _)⟩
  · cases ho
theorem c_min (hc : X.calm = true) : CallR X (.builtin "min") (rC2 p minO) := by
  intro pins s σ H xs us Q I r0 h
  obtain ⟨v, u, rfl, σ', g, s', d, e, z, r, a1, a2, ho, f⟩ := h
  unfold minO at ho
  split at ho
  · cases ho
    cases a1.int
    cases a2.int
    exact call_min2 hc pins s σ H _ us Q I r0 ⟨_, _, rfl, f.now r (.int _)⟩
  · cases ho
def intO : O1 := fun x _ => match x with
  | .int i => some (.int i)
  | .bl k => some (.int (if k then 1 else 0))
  | .str z => if z.length ≤ 640 then (PySem.intText? z).map .int else none
  | _ => none
theorem c_int : CallR X (.type "int") (rC1 p intO) := by
  intro pins s σ H xs us Q I r0 h
  obtain ⟨v, rfl, σ', g, s', d, z, r, a1, ho, f⟩ := h
  unfold intO at ho
  split at ho
  · cases ho
    cases a1.int
    exact call_int1 pins s σ H _ us Q I r0 (.inl ⟨_, rfl, f.now r (.int _)⟩)
  · cases ho
    cases a1.bl
    exact call_int1 pins s σ H _ us Q I r0 (.inr ⟨_, rfl, f.now r (.int _)⟩)
  · split at ho
    · rename_i hl
      cases hz : PySem.intText? _ with
      | none => rw [hz] at ho; cases ho
      | some n =>
        rw [hz] at ho
        cases ho
        cases a1.str
        exact call_int_str pins s σ H _ us Q I r0 ⟨_, n, rfl, hz, hl, f.now r (.int _)⟩
    · cases ho
  · cases ho
def gcdO : O2 := fun x y _ => match x, y with
  | .int i, .int j => some (.int ((Nat.gcd i.natAbs j.natAbs : Nat) : Int))
  | _, _ => none
theorem c_gcd : CallR X (.builtin "math.gcd") (rC2 p gcdO) := by
  intro pins s σ H xs us Q I r0 h
  obtain ⟨v, u, rfl, σ', g, s', d, e, z, r, a1, a2, ho, f⟩ := h
  unfold gcdO at ho
  split at ho
  · cases ho
    cases a1.int
    cases a2.int
    exact cr_gcd pins s σ H _ us Q I r0 ⟨_, _, rfl, f.now r (.int _)⟩
  · cases ho
def divmodO : O2 := fun x y _ => match x, y with
  | .int i, .int j => if 0 < j ∧ j.natAbs.log2 < 9000 then some (.tup [.int (i / j), .int (i % j)]) else none
  | _, _ => none
theorem c_divmod : CallR X (.builtin "divmod") (rC2 p divmodO) := by
  intro pins s σ H xs us Q I r0 h
  obtain ⟨v, u, rfl, σ', g, s', d, e, z, r, a1, a2, ho, f⟩ := h
  unfold divmodO at ho
  split at ho
  · split at ho
    · rename_i hc
      cases ho
      cases a1.int
      cases a2.int
      exact call_divmodW pins s σ H _ us Q I r0 ⟨_, _, rfl, ⟨hc.1, PyProof.noPylong_of_log2 hc.2⟩, fun q hq => f.tup r (.cons (.int _) (.cons (.int _) .nil)) hq⟩
    · cases ho
  · cases ho
def strO : O1 := fun x _ => match x with
  | .int i => if i.natAbs.log2 < 1920 then some (.str (toString i)) else none
  | _ => none
theorem c_str : CallR X (.type "str") (rC1 p strO) := by
  intro pins s σ H xs us Q I r0 h
  obtain ⟨v, rfl, σ', g, s', d, z, r, a1, ho, f⟩ := h
  unfold strO at ho
  split at ho
  · split at ho
    · cases ho
      cases a1.int
      exact call_str_int pins s σ H _ us Q I r0 ⟨_, rfl, by assumption, f.now r (.str _)⟩
    · cases ho
  · cases ho
/-- list of truth values -/
def bools : List D → Option (List Bool)
  | [] => some []
  | .bl b :: r => (bools r).map (b :: ·)
  | _ :: _ => none
theorem RVs.bools {K : Kx} {F : Hp} {φ : List Addr} : ∀ {ds : List D} {vs : List V} {bs : List Bool}, RVs K F φ ds vs → Mp.bools ds = some bs → vs = bs.map V.bl
  | [], _, _, .nil, e => by
    cases e
    rfl
  | d :: ds, _, bs, .cons r q, e => by
    cases d with
    | bl b =>
      unfold Mp.bools at e
      cases z : Mp.bools ds with
      | none => rw [z] at e; cases e
      | some cs =>
        rw [z] at e
        cases e
        cases r
        rw [RVs.bools q z]
        rfl
    | _ => cases e
def allO : O1 := fun x _ => match x with
  | .lst xs => (bools xs).map fun bs => .bl (bs.all id)
  | _ => none
def anyO : O1 := fun x _ => match x with
  | .lst xs => (bools xs).map fun bs => .bl (bs.any id)
  | _ => none
theorem c_all (hc : X.calm = true) : CallR X (.builtin "all") (rC1 p allO) := by
  intro pins s σ H xs us Q I r0 h
  obtain ⟨v, rfl, σ', g, s', d, z, r, a1, ho, f⟩ := h
  unfold allO at ho
  split at ho
  · obtain ⟨a, vs, rfl, h1, h2⟩ := a1.lst r.m
    cases hz : bools _ with
    | none => rw [hz] at ho; cases ho
    | some bs =>
      rw [hz] at ho
      cases ho
      exact cr_all hc pins s σ H _ us Q I r0 ⟨a, bs, rfl, SqL.of (by rw [← h2.bools hz]; exact h1), f.now r (.bl _)⟩
  · cases ho
theorem c_any (hc : X.calm = true) : CallR X (.builtin "any") (rC1 p anyO) := by
  intro pins s σ H xs us Q I r0 h
  obtain ⟨v, rfl, σ', g, s', d, z, r, a1, ho, f⟩ := h
  unfold anyO at ho
  split at ho
  · obtain ⟨a, vs, rfl, h1, h2⟩ := a1.lst r.m
    cases hz : bools _ with
    | none => rw [hz] at ho; cases ho
    | some bs =>
      rw [hz] at ho
      cases ho
      exact cr_any hc pins s σ H _ us Q I r0 ⟨a, bs, rfl, SqL.of (by rw [← h2.bools hz]; exact h1), f.now r (.bl _)⟩
  · cases ho
def tupleO : O1 := fun x _ => match x with
  | .lst xs => some (.tup xs)
  | .tup xs => some (.tup xs)
  | _ => none
theorem c_tuple : CallR X (.type "tuple") (rC1 p tupleO) := by
  intro pins s σ H xs us Q I r0 h
  obtain ⟨v, rfl, σ', g, s', d, z, r, a1, ho, f⟩ := h
  unfold tupleO at ho
  split at ho
  · cases ho
    obtain ⟨a, vs, rfl, h1, h2⟩ := a1.lst r.m
    exact call_tuple_of pins s σ H _ us Q I r0 ⟨a, vs, rfl, .inl ⟨SqL.of h1, fun q hq => f.tup r h2 hq⟩⟩
  · cases ho
    obtain ⟨a, vs, rfl, h1, h2⟩ := a1.tup r.m
    have back := a1.tupV
    exact call_tuple_of pins s σ H _ us Q I r0 ⟨a, vs, rfl, .inr ⟨h1, f.now r back⟩⟩
  · cases ho
/-- list(x): frozen at once -/
def listO : O1 := fun x _ => match x with
  | .lst xs => some (.lst xs)
  | .tup xs => some (.lst xs)
  | _ => none
theorem c_list : CallR X (.type "list") (rC1 p listO) := by
  intro pins s σ H xs us Q I r0 h
  obtain ⟨v, rfl, σ', g, s', d, z, r, a1, ho, f⟩ := h
  unfold listO at ho
  split at ho
  · cases ho
    obtain ⟨a, vs, rfl, h1, h2⟩ := a1.lst r.m
    exact call_list_of pins s σ H _ us Q I r0 ⟨a, vs, rfl, .inl (SqL.of h1), fun q hq => f.lst r h2 hq⟩
  · cases ho
    obtain ⟨a, vs, rfl, h1, h2⟩ := a1.tup r.m
    exact call_list_of pins s σ H _ us Q I r0 ⟨a, vs, rfl, .inr h1, fun q hq => f.lst r h2 hq⟩
  · cases ho
/-- repr -/
def reprO : O1 := fun x _ => match x.py with
  | some y => if y.showable && decide (y.depth ≤ 60) && decide (y.shown.length ≤ 10000000) && !y.hasDict then some (.str y.shown) else none
  | none => none
end
end Mp

set_option Elab.async false
set_option linter.all false
set_option maxRecDepth 100000
set_option maxHeartbeats 4000000
namespace Mp
open PySem PySem.Spec L2
open PyProof.Rows hiding St

/-! ### isinstance -/
inductive Tg where
  | non | bl | int | str | tup | lst | dct
def Tg.name : Tg → String
  | .non => "NoneType" | .bl => "bool" | .int => "int" | .str => "str" | .tup => "tuple" | .lst => "list" | .dct => "dict"
inductive Ty where
  | int | bool | str | tuple | list | dict
def Ty.name : Ty → String
  | .int => "int" | .bool => "bool" | .str => "str" | .tuple => "tuple" | .list => "list" | .dict => "dict"
def isTy : Tg → Ty → Bool
  | .int, .int => true | .bl, .int => true | .bl, .bool => true | .str, .str => true | .tup, .tuple => true | .lst, .list => true | .dct, .dict => true
  | _, _ => false
theorem kit_is : ∀ (t : Tg) (T : Ty), kitB t.name T.name = some (isTy t T) := by
  intro t T
  cases t <;> cases T <;> decide +kernel
def D.tg : D → Option Tg
  | .non => some .non | .bl _ => some .bl | .int _ => some .int | .str _ => some .str | .tup _ => some .tup | .lst _ => some .lst | .ref _ => some .lst | .dct => some .dct
  | _ => none
def isiO (T : Ty) : O1 := fun x _ => x.tg.map fun t => .bl (isTy t T)
def isi2O (T U : Ty) : O1 := fun x _ => x.tg.map fun t => .bl (isTy t T || isTy t U)
theorem tyX_of {K : Kx} {g : G} {H : Hp} {s : S} {x : D} {v : V} {t : Tg} (m : RM K g H s.ms) (r : RVp K g H x v) (h : x.tg = some t) : TyX K.K H v (.type t.name) := by
  cases x with
  | non => cases r.non; cases h; exact .base .non
  | bl b => cases r.bl; cases h; exact .base (.bl b)
  | int i => cases r.int; cases h; exact .base (.int i)
  | str y => cases r.str; cases h; exact .base (.str y)
  | tup xs =>
    obtain ⟨a, vs, rfl, h1, h2⟩ := r.tup m
    cases h
    rcases h1 with (h1 | ⟨o, h1⟩) | ⟨o, its, n, h1, h3, _⟩
    · exact .base (.tup h1)
    · exact .fTuple h1
    · exact .kTuple h1 h3
  | lst xs =>
    obtain ⟨a, vs, rfl, h1, h2⟩ := r.lst m
    cases h
    exact .base (.lst h1)
  | scr xs => cases h
  | dct =>
    obtain ⟨a, rfl, h1⟩ := r.dct m
    cases h
    exact .base (.dK h1)
  | ref n =>
    obtain ⟨a, ds, vs, rfl, h1, h2, h3, h4⟩ := r.ref m
    cases h
    exact .base (.lst h3)
  | obj a => cases h
  | clo L n => cases h
section
variable {X : Cx} {lt : Nat → LamI} {p : Pm ⟨X.K, lt⟩} {e a b c : Expr} {es : List Expr} {rest : List Expr} {pos : Pos} {fa fb fc : M D} {ba bb : M Bool}
theorem d_isi {T : Ty} {tn : Str} {pf pt : Pos} (hg : Gl X "isinstance") (hm : X.mg "isinstance" = none) (hg2 : Gl X tn) (hm2 : X.mg tn = none) (hv : bootBuiltins tn = some (.type T.name)) (ha : PE X a (tP p fa)) (hn : tn ≠ "__name__" := by decide) (hdb : (tn == ("__debug__" : Str)) = false := by decide)
    (he : starEach (a :: [.Name tn pt]) X.env = (false, eval a X.env) :: starEach [.Name tn pt] X.env := by rfl) (he2 : starEach [.Name tn pt] X.env = (false, eval (.Name tn pt) X.env) :: starEach [] X.env := by rfl) (hpl : (backTo pos (starEach [.Name tn pt] X.env)).any (·.1) = false := by rfl) :
    PE X (.Call (.Name "isinstance" pf) [a, .Name tn pt] [] pos) (tD p (op1 (isiO T) fa)) :=
  (pe_callB (x := "isinstance") call_isi hg hm (by decide +kernel) (pa_cons ha (pa_cons (pe_bltn (v := .ty T.name) hg2 hm2 hv rfl hn hdb) pa_nil he2) he) (by decide) (by decide) he hpl).imp fun σ H Q q => by
    obtain ⟨g, s, r, q⟩ := use1 q
    refine ⟨g, s, r, Post.mono q fun v H1 ⟨σ', g1, s1, x, d, r1, a1, ho, f⟩ => ?_⟩
    unfold isiO at ho
    cases z : x.tg with
    | none => rw [z] at ho; cases ho
    | some t =>
      rw [z] at ho
      cases ho
      exact ⟨v, .ty T.name, _, _, isTy t T, rfl, .ty _, tyX_of r1.m a1 z, kit_ty (kit_is t T), f.now r1 (.bl _)⟩
theorem d_isi2 {T U : Ty} {tn un : Str} {pf pt pu pp : Pos} {kt} (hg : Gl X "isinstance") (hm : X.mg "isinstance" = none) (hg2 : Gl X tn) (hm2 : X.mg tn = none) (hv : bootBuiltins tn = some (.type T.name)) (hg3 : Gl X un) (hm3 : X.mg un = none) (hv3 : bootBuiltins un = some (.type U.name)) (ha : PE X a (tP p fa))
    (hn : tn ≠ "__name__" := by decide) (hdb : (tn == ("__debug__" : Str)) = false := by decide) (hn3 : un ≠ "__name__" := by decide) (hdb3 : (un == ("__debug__" : Str)) = false := by decide)
    (he : starEach (a :: [.Tuple [.Name tn pt, .Name un pu] kt pp]) X.env = (false, eval a X.env) :: starEach [.Tuple [.Name tn pt, .Name un pu] kt pp] X.env := by rfl) (he2 : starEach [.Tuple [.Name tn pt, .Name un pu] kt pp] X.env = (false, eval (.Tuple [.Name tn pt, .Name un pu] kt pp) X.env) :: starEach [] X.env := by rfl)
    (he3 : starEach [.Name tn pt, .Name un pu] X.env = (false, eval (.Name tn pt) X.env) :: starEach [.Name un pu] X.env := by rfl) (he4 : starEach [.Name un pu] X.env = (false, eval (.Name un pu) X.env) :: starEach [] X.env := by rfl)
    (hpl : (backTo pos (starEach [.Tuple [.Name tn pt, .Name un pu] kt pp] X.env)).any (·.1) = false := by rfl) :
    PE X (.Call (.Name "isinstance" pf) [a, .Tuple [.Name tn pt, .Name un pu] kt pp] [] pos) (tD p (op1 (isi2O T U) fa)) :=
  (pe_callB (x := "isinstance") call_isiT hg hm (by decide +kernel) (pa_cons ha (pa_cons (pe_tup (pa_cons (pe_bltn (v := .ty T.name) hg2 hm2 hv rfl hn hdb) (pa_cons (pe_bltn (v := .ty U.name) hg3 hm3 hv3 rfl hn3 hdb3) pa_nil he4) he3)) pa_nil he2) he) (by decide) (by decide) he hpl).imp fun σ H Q q => by
    obtain ⟨g, s, r, q⟩ := use1 q
    refine ⟨g, s, r, Post.mono q fun v H1 ⟨σ', g1, s1, x, d, r1, a1, ho, f⟩ => ?_⟩
    unfold isi2O at ho
    cases z : x.tg with
    | none => rw [z] at ho; cases ho
    | some t =>
      rw [z] at ho
      cases ho
      refine ⟨by show 2 ≤ sizeLine; decide, fun q hq => ?_⟩
      have r2 := r1.add hq (.tup [.ty T.name, .ty U.name])
      have e2 := r1.addE hq (.tup [.ty T.name, .ty U.name])
      refine ⟨v, q, _, _, _, isTy t T || isTy t U, rfl, upd_same, .cons (.ty _) (.cons (.ty _) .nil), tyX_of r2.m (a1.ext e2) z, ?_, f _ _ _ r2 e2 (.bl _)⟩
      refine kitAny_cons (kit_ty (kit_is t T)) (fun h => ?_) fun h => by rw [h]; rfl
      rw [h, Bool.false_or]
      exact kitAny_cons (kit_ty (kit_is t U)) (fun h => by rw [h]; exact kitAny_nil) fun h => h
theorem szR {n : Nat} (h : n ≤ 10000000) : n ≤ sizeLine := Nat.le_trans h (by decide)
/-! ### repr -/
theorem c_repr (hgd : X.A.guards = some []) (hu : X.A.units + 64 < cLine) : CallR X (.builtin "repr") (rC1 p reprO) := by
  intro pins s σ H xs us Q I r0 h
  obtain ⟨v, rfl, σ', g, s', d, z, r, a1, ho, f⟩ := h
  obtain ⟨u, rfl, ru⟩ := vals1 r0
  unfold reprO at ho
  cases hp : d.py with
  | none => rw [hp] at ho; cases ho
  | some y =>
    rw [hp] at ho
    have ho : (if y.showable && decide (y.depth ≤ 60) && decide (y.shown.length ≤ 10000000) && !y.hasDict then some (D.str y.shown) else none) = some z := ho
    by_cases hc : (y.showable && decide (y.depth ≤ 60) && decide (y.shown.length ≤ 10000000) && !y.hasDict) = true
    · rw [if_pos hc] at ho
      cases ho
      simp only [Bool.and_eq_true, decide_eq_true_eq, Bool.not_eq_true'] at hc
      obtain ⟨⟨⟨h1, h2⟩, h3⟩, h4⟩ := hc
      have dp := a1.dp r.m hp
      have fin : ∀ {h' : Heap} {u' : Tok} {tk : Nat}, (∀ b o, s.heap.get? b = some o → h'.get? b = some o) → EP X pins σ Q (.str y.shown u') { s with heap := h', toks := tk } := fun k => ⟨.str y.shown, H, I.kept k, ⟨_, rfl⟩, f.now r (.str _)⟩
      cases dp with
      | non =>
        cases ru
        exact PySem.P.repr_of_none (fin (h' := s.heap) fun _ _ e => e)
      | bl b =>
        cases ru
        exact PySem.P.repr_of_bool (fin (h' := s.heap) fun _ _ e => e)
      | int i =>
        obtain ⟨t, rfl⟩ := ru
        have h1 : i.natAbs.log2 < 1920 := by simpa [PyData.showable] using h1
        exact PySem.P.repr_of_int h1 (fin (h' := s.heap) fun _ _ e => e)
      | str x =>
        obtain ⟨t, rfl⟩ := ru
        exact PySem.P.repr_of_str (fin (h' := s.heap) fun _ _ e => e) (szR h3)
      | @lst a xs ds hs ha =>
        obtain ⟨as, rd⟩ := Dp.reads I (.list ds) (.ref a) u (.lst hs ha) ru
        cases ru
        exact repr_of_reads' rd h1 (fun hd => by rw [h4] at hd; cases hd) hgd (by omega) (fun _ _ e => e) (fun h' u' tk k => fin k) (szR h3)
      | @tup a xs ds hs ha =>
        obtain ⟨as, rd⟩ := Dp.reads I (.tuple ds) (.ref a) u (.tup hs ha) ru
        cases ru
        exact repr_of_reads' rd h1 (fun hd => by rw [h4] at hd; cases hd) hgd (by omega) (fun _ _ e => e) (fun h' u' tk k => fin k) (szR h3)
    · rw [if_neg hc] at ho
      cases ho
/-! ### statements -/
variable {st : Stmt} {sts : List Stmt} {f1 f2 : M Fl}
def seqS (f h : M Fl) : M Fl := bnd f fun x => match x with
  | .nx => h
  | x => ret x
theorem s_nil : PSs X [] (tS p (ret .nx)) := pss_nil.imp fun D σ H ⟨g, s, r, q⟩ => q σ H g r (.refl g H)
theorem s_one (h : PS X st (tS p f1)) : PSs X [st] (tS p f1) := pss_one h
theorem PstS.seq {K : Kx} {p : Pm K} {f h : M Fl} {g : G} {H : Hp} {s : S} {D : Ends} (q : PstS p (seqS f h s) g H D) : PstS p (f s) g H { D with nx := fun σ' H' => tS p h D σ' H' } := by
  unfold seqS Mp.bnd at q
  cases z : f s with
  | stuck => rw [z] at q; exact q
  | err c fs s' => rw [z] at q; exact q
  | ok x s' =>
    rw [z] at q
    cases x with
    | nx => exact fun σ' H' g' r e => ⟨g', s', r, PstS.pre e q⟩
    | ret d => exact q
    | bk => exact q
    | ct => exact q
theorem s_cons (h1 : PS X st (tS p f1)) (h2 : PSs X sts (tS p f2)) : PSs X (st :: sts) (tS p (seqS f1 f2)) := (pss_cons h1 h2).imp fun D σ H ⟨g, s, r, q⟩ => ⟨g, s, r, q.seq⟩
theorem s_pass : PS X (.Pass pos) (tS p (ret .nx)) := ps_pass.imp fun D σ H ⟨g, s, r, q⟩ => q σ H g r (.refl g H)
theorem s_break : PS X (.Break pos) (tS p (ret .bk)) := ps_break.imp fun D σ H ⟨g, s, r, q⟩ => q σ H g r (.refl g H)
theorem s_continue : PS X (.Continue pos) (tS p (ret .ct)) := ps_continue.imp fun D σ H ⟨g, s, r, q⟩ => q σ H g r (.refl g H)
theorem s_doc {x j pos'} : PS X (.Expr (.Constant (.str x) j pos) pos') (tS p (ret .nx)) := ps_doc.imp fun D σ H ⟨g, s, r, q⟩ => q σ H g r (.refl g H)
def retS (f : M D) : M Fl := bnd f fun d => ret (.ret d)
theorem s_ret (ha : PE X a (tD p fa)) : PS X (.Return (some a) pos) (tS p (retS fa)) := (ps_ret ha).imp fun D σ H ⟨g, s, r, q⟩ =>
  ⟨g, s, r, Post.mono (PstS.bnd (A := AV ⟨X.K, lt⟩) q) fun v H1 ⟨g1, s1, d, r1, e1, a1, q1⟩ => q1 v σ H1 g1 r1 (.refl _ _) a1⟩
theorem s_retN : PS X (.Return none pos) (tS p (ret (.ret .non))) := ps_retN.imp fun D σ H ⟨g, s, r, q⟩ => q .non σ H g r (.refl g H) .non
def dropS (f : M D) : M Fl := bnd f fun _ => ret .nx
theorem s_expr (ha : PE X a (tD p fa)) (hs : swapsWith a none pos.line X.env = pure false := by rfl) : PS X (.Expr a pos) (tS p (dropS fa)) := (ps_expr ha hs).imp fun D σ H ⟨g, s, r, q⟩ =>
  ⟨g, s, r, Post.mono (PstS.bnd (A := AV ⟨X.K, lt⟩) q) fun v H1 ⟨g1, s1, d, r1, e1, a1, q1⟩ => q1 σ H1 g1 r1 (.refl _ _)⟩
def ifS (t : M Bool) (f h : M Fl) : M Fl := bnd t fun b => if b then f else h
theorem s_if {st1 st2 : List Stmt} (hc : PT X c (tB p ba)) (ha : PSs X st1 (tS p f1)) (hb : PSs X st2 (tS p f2)) : PS X (.If c st1 st2 pos) (tS p (ifS ba f1 f2)) := (ps_if hc ha hb).imp fun D σ H ⟨g, s, r, q⟩ =>
  ⟨g, s, r, Post.mono (PstS.bnd (A := AB) q) fun v H1 ⟨g1, s1, d, r1, e1, a1, q1⟩ => by
    subst a1
    cases v with
    | true =>
      rw [if_pos rfl] at q1
      rw [if_pos rfl]
      exact ⟨g1, s1, r1, q1⟩
    | false =>
      rw [if_neg Bool.false_ne_true] at q1
      rw [if_neg Bool.false_ne_true]
      exact ⟨g1, s1, r1, q1⟩⟩
/-- code that is never come to -/
theorem s_never : PS X st (tS p stk) := ps_never.imp fun D σ H ⟨g, s, r, q⟩ => q.elim
theorem ss_never : PSs X sts (tS p stk) := pss_never.imp fun D σ H ⟨g, s, r, q⟩ => q.elim
/-! ### targets -/
abbrev Tgt := D → M Unit
def PstU {K : Kx} (p : Pm K) (r : R Unit) (g : G) (H : Hp) (Q : L2.St → Hp → Prop) : Prop := match r with
  | .ok _ s' => ∀ σ' H' g', RS p g' σ' H' s' → ExtS g H g' H' → Q σ' H'
  | .err c fs s' => ∀ σ' H' g' dx, RS p g' σ' H' s' → ExtS g H g' H' → REx K g' H' fs dx → p.W (K.tr c) dx σ' H'
  | .stuck => False
theorem PstU.pre {K : Kx} {p : Pm K} {g g1 : G} {H H1 : Hp} {r : R Unit} {Q : L2.St → Hp → Prop} (e : ExtS g H g1 H1) (h : PstU p r g H Q) : PstU p r g1 H1 Q := by
  cases r with
  | ok d s' => exact fun σ' H' g' a b => h σ' H' g' a (e.trans b)
  | err c fs s' => exact fun σ' H' g' dx a b c => h σ' H' g' dx a (e.trans b) c
  | stuck => exact h
theorem PstU.bnd {K : Kx} {p : Pm K} {g : G} {H : Hp} {s : S} {f : M Unit} {k : Unit → M Unit} {Q : L2.St → Hp → Prop} (q : PstU p (Mp.bnd f k s) g H Q) : PstU p (f s) g H fun σ' H' => ∃ g' s', RS p g' σ' H' s' ∧ ExtS g H g' H' ∧ PstU p (k () s') g' H' Q := by
  unfold Mp.bnd at q
  cases z : f s with
  | stuck => rw [z] at q; exact q
  | err c fs s' => rw [z] at q; exact q
  | ok x s' =>
    rw [z] at q
    exact fun σ' H' g' r e => ⟨g', s', r, e, PstU.pre e q⟩
/-- what a statement makes of a target's end -/
theorem PstU.nx {K : Kx} {p : Pm K} {g : G} {H : Hp} {s : S} {f : M Unit} {k : Unit → M Fl} {D : Ends} (q : PstS p (Mp.bnd f k s) g H D) : PstU p (f s) g H fun σ' H' => ∃ g' s', RS p g' σ' H' s' ∧ ExtS g H g' H' ∧ PstS p (k () s') g' H' D := by
  unfold Mp.bnd at q
  cases z : f s with
  | stuck => rw [z] at q; exact q
  | err c fs s' => rw [z] at q; exact q
  | ok x s' =>
    rw [z] at q
    exact fun σ' H' g' r e => ⟨g', s', r, e, PstS.pre e q⟩
theorem PstU.mono {K : Kx} {p : Pm K} {g : G} {H : Hp} {r : R Unit} {Q Q' : L2.St → Hp → Prop} (h : PstU p r g H Q) (w : ∀ σ' H', Q σ' H' → Q' σ' H') : PstU p r g H Q' := by
  cases r with
  | ok d s' => exact fun σ' H' g' a b => w _ _ (h σ' H' g' a b)
  | err c fs s' => exact h
  | stuck => exact h
/-- an assignment to a target -/
def gG {K : Kx} (p : Pm K) (t : Tgt) : TG := fun v σ H Q => ∃ g s d, RS p g σ H s ∧ RV K g.F g.φ d v ∧ PstU p (t d s) g H Q
def gGs {K : Kx} (p : Pm K) (t : List D → M Unit) : TGs := fun vs σ H Q => ∃ g s ds, RS p g σ H s ∧ RVs K g.F g.φ ds vs ∧ PstU p (t ds s) g H Q
theorem _root_.L2.PG.imp {X : Cx} {e : Expr} {t t' : TG} (h : PG X e t) (w : ∀ v σ H Q, t' v σ H Q → t v σ H Q) : PG X e t' := ⟨fun pins s σ H v u Q I r q => h.run pins s σ H v u Q I r (w v σ H Q q)⟩
theorem _root_.L2.PGs.imp {X : Cx} {es : List Expr} {t t' : TGs} (h : PGs X es t) (w : ∀ v σ H Q, t' v σ H Q → t v σ H Q) : PGs X es t' := ⟨fun pins s σ H v u Q I r q => h.run pins s σ H v u Q I r (w v σ H Q q)⟩
theorem g_name {i : Nat} {x : Str} (hN : X.N.Nodup) (hi : X.N[i]? = some x) (hx : Loc X.env.scope x) (hf : X.fn x = true ∨ X.env.scope.names.lookup x = some .local := by first | exact .inl rfl | exact .inr rfl | assumption) : PG X (.Name x pos) (gG p (setv i)) :=
  (pg_name hN hi hx hf).imp fun v σ H Q ⟨g, s, d, r, rv, q⟩ => by
    unfold setv at q
    by_cases hl : i < s.env.length
    · rw [if_pos hl] at q
      exact q _ H _ (r.setv hl rv) (g.dropE H i).s
    · rw [if_neg hl] at q
      exact q.elim
def tgtN : List D → M Unit := fun ds => match ds with
  | [] => ret ()
  | _ => stk
def tgtC (t : Tgt) (u : List D → M Unit) : List D → M Unit := fun ds => match ds with
  | d :: r => bnd (t d) fun _ => u r
  | [] => stk
theorem gs_nil : PGs X [] (gGs p tgtN) := pgs_nil.imp fun vs σ H Q ⟨g, s, ds, r, rv, q⟩ => by
  cases rv with
  | nil => exact ⟨rfl, q σ H g r (.refl _ _)⟩
  | cons _ _ => exact q.elim
theorem gs_cons {t : Tgt} {u : List D → M Unit} (h1 : PG X e (gG p t)) (h2 : PGs X es (gGs p u)) (hs : (assignEach (e :: es) X.env).map (·.2) = assign e X.env :: (assignEach es X.env).map (·.2) := by rfl) : PGs X (e :: es) (gGs p (tgtC t u)) := (pgs_cons h1 h2 hs).imp fun vs σ H Q ⟨g, s, ds, r, rv, q⟩ => by
  cases rv with
  | nil => exact q.elim
  | @cons d v ds vs r1 r2 => exact ⟨v, vs, rfl, g, s, d, r, r1, (PstU.bnd q).mono fun σ' H' ⟨g', s', r', e', q'⟩ => ⟨g', s', ds, r', e'.rvs r2, q'⟩⟩
/-- (a, b, ..) = a tuple -/
def tgtT (n : Nat) (u : List D → M Unit) : Tgt := fun d => match d with
  | .tup xs => if xs.length = n then u xs else stk
  | _ => stk
theorem g_tup {k n : Nat} {u : List D → M Unit} (hc : X.calm = true) (h : PGs X es (gGs p u)) (hn : (assignEach es X.env).length = n := by rfl) (hst : (assignEach es X.env).findIdx? (·.1) = none := by rfl) : PG X (.Tuple es k pos) (gG p (tgtT n u)) :=
  (pg_tup hc h hn hst).imp fun v σ H Q ⟨g, s, d, r, rv, q⟩ => by
    unfold tgtT at q
    split at q
    · rename_i xs
      by_cases hl : xs.length = n
      · rw [if_pos hl] at q
        cases rv with
        | @tup a vs _ h1 h2 => exact ⟨a, vs, rfl, SqT.up r.m.sub h1, by rw [← h2.length]; exact hl, g, s, xs, r, h2, q⟩
      · rw [if_neg hl] at q
        exact q.elim
    · exact q.elim
/-- target = value -/
def asgS (f : M D) (t : Tgt) : M Fl := bnd f fun d => bnd (t d) fun _ => ret .nx
theorem asg_use {K : Kx} {p : Pm K} {t : Tgt} {D : Ends} {σ : L2.St} {H : Hp} (q : tS p (asgS fa t) D σ H) : tAsg (tD p fa) (gG p t) D σ H := by
  obtain ⟨g, s, r, q⟩ := q
  exact ⟨g, s, r, Post.mono (PstS.bnd (A := AV K) q) fun v H1 ⟨g1, s1, d, r1, e1, a1, q1⟩ => ⟨g1, s1, d, r1, a1, (PstU.nx q1).mono fun σ' H' ⟨g', s', r', e', q'⟩ => q' σ' H' g' r' (.refl _ _)⟩⟩
theorem s_asg {tg : Expr} {t : Tgt} (ha : PE X a (tD p fa)) (hg : PG X tg (gG p t)) (hs : swapsWithSole [tg] a pos.line X.env = pure false := by rfl) (hw : swappedStores [tg] a X.env = pure none := by rfl)
    (h1 : (assignEach [tg] X.env).map (·.2) = [assign tg X.env] := by rfl) : PS X (.Assign [tg] a pos) (tS p (asgS fa t)) := (ps_asg ha hg hs hw h1).imp fun D σ H q => asg_use q
/-- name = value -/
theorem s_set {i : Nat} {x : Str} {pos' : Pos} (hN : X.N.Nodup) (hi : X.N[i]? = some x) (hx : Loc X.env.scope x) (ha : PE X a (tD p fa)) (hs : swapsWith a (some (.Name x pos')) pos.line X.env = pure false := by rfl) (hf : X.fn x = true ∨ X.env.scope.names.lookup x = some .local := by first | exact .inl rfl | exact .inr rfl | assumption) :
    PS X (.Assign [.Name x pos'] a pos) (tS p (asgS fa (setv i))) := (ps_set hN hi hx ha hs hf).imp fun D σ H q => by
  obtain ⟨g, s, r, q⟩ := q
  refine ⟨g, s, r, Post.mono (PstS.bnd (A := AV ⟨X.K, lt⟩) q) fun v H1 ⟨g1, s1, d, r1, e1, a1, q1⟩ => ?_⟩
  have q1 := PstU.nx q1
  unfold setv at q1
  by_cases hl : i < s1.env.length
  · rw [if_pos hl] at q1
    obtain ⟨g', s', r', e', q'⟩ := q1 _ H1 _ (r1.setv hl a1) (g1.dropE H1 i).s
    exact q' _ _ _ r' (.refl _ _)
  · rw [if_neg hl] at q1
    exact q1.elim
/-- name = a new list that this slot alone knows -/
def ownS (f : M (List D)) (i : Nat) : M Fl := bnd f fun xs => bnd (setown i xs) fun _ => ret .nx
theorem s_own {i : Nat} {x : Str} {pos' : Pos} {f : M (List D)} (hN : X.N.Nodup) (hi : X.N[i]? = some x) (hx : Loc X.env.scope x) (ha : PE X a (tF p f)) (hs : swapsWith a (some (.Name x pos')) pos.line X.env = pure false := by rfl) (hf : X.fn x = true ∨ X.env.scope.names.lookup x = some .local := by first | exact .inl rfl | exact .inr rfl | assumption) :
    PS X (.Assign [.Name x pos'] a pos) (tS p (ownS f i)) := (ps_set hN hi hx ha hs hf).imp fun D σ H q => by
  obtain ⟨g, s, r, q⟩ := q
  refine ⟨g, s, r, ?_⟩
  unfold ownS bnd at q
  cases z : f s with
  | stuck => rw [z] at q; exact q
  | err c fs s' => rw [z] at q; exact fun H' g' dx a b c => q σ H' g' dx a b.s c
  | ok ds s1 =>
    rw [z] at q
    intro v H1 g1 r1 e1 ⟨a1, vs, ev, rv, ha1, hf1, hp1, ho1, hn1⟩
    subst ev
    have q : PstS p (bnd (setown i ds) (fun _ => ret .nx) s1) g H D := q
    unfold bnd setown at q
    by_cases hl : i < s1.env.length
    · rw [if_pos hl] at q
      exact q _ _ _ (r.setown r1 e1.s hl ha1 rv hf1 hp1 ho1 hn1) (e1.s.take hn1 ha1)
    · rw [if_neg hl] at q
      exact q.elim
/-- a new list becomes an identity list -/
def refd (f : M (List D)) : M D := bnd f fun xs s => .ok (.ref s.ms.length) { s with ms := s.ms ++ [xs] }
theorem d_ref {f : M (List D)} (h : PE X e (tF p f)) : PE X e (tD p (refd f)) := h.imp fun σ H Q ⟨g, s, r, q⟩ => ⟨g, s, r, by
  unfold refd bnd at q
  cases z : f s with
  | stuck => rw [z] at q; exact q
  | err c fs s' => rw [z] at q; exact q
  | ok ds s1 =>
    rw [z] at q
    intro v H1 g1 r1 e1 ⟨a1, vs, ev, rv, ha1, hf1, hp1, ho1, hn1⟩
    subst ev
    have q : ∀ v H' g', RS p g' σ H' { s1 with ms := s1.ms ++ [ds] } → Ext g H g' H' → RV ⟨X.K, lt⟩ g'.F g'.φ (.ref s1.ms.length) v → Q v H' := q
    obtain ⟨r2, e2⟩ := r.newref r1 e1.s ha1 rv hf1 hp1 ho1 hn1
    refine q _ _ _ r2 ⟨e2.fr, e2.ph, e2.new, e2.fnew, e2.nom, e2.there, e1.keep⟩ (.ref ?_)
    show (g1.φ ++ [a1])[s1.ms.length]? = some a1
    rw [r1.m.mlen]
    simp⟩
/-! ### a slot's own list changes -/
def ownOf (s : S) (i : Nat) : Option (List D) := match s.env[i]? with
  | some (.own xs) => some xs
  | _ => none
def appS (i : Nat) (f : M D) : M Fl := fun s0 => match ownOf s0 i with
  | none => .stuck
  | some _ => bnd f (fun d s => match ownOf s i with
    | some xs => if xs.length < 100000 then .ok .nx { s with env := s.env.set i (.own (xs ++ [d])) } else .stuck
    | none => .stuck) s0
theorem ownOf_at {s : S} {i : Nat} {xs : List D} (h : ownOf s i = some xs) : s.env[i]? = some (Sl.own xs) := by
  unfold ownOf at h
  split at h
  · rename_i h1
    cases h
    exact h1
  · cases h
theorem own_addr {K : Kx} {p : Pm K} {g : G} {σ : L2.St} {H : Hp} {s : S} {i : Nat} {xs : List D} (r : RS p g σ H s) (h : ownOf s i = some xs) : ∃ a vs, g.ω i = some a ∧ σ[i]? = some (some (.ref a)) ∧ H a = some (.lst vs) ∧ RVs K g.F g.φ xs vs ∧ g.F a = none ∧ a ∉ g.φ := r.f.own i xs (ownOf_at h)
theorem szT {n : Nat} (h : n < 100000) : n < sizeLine := Nat.lt_of_lt_of_le h (by decide)
theorem s_append {i : Nat} {x : Str} {px pa : Pos} (hN : X.N[i]? = some x) (hv : Vis X.env.scope x) (ha : PE X a (tD p fa)) (hs : swapsWith (.Call (.Attribute (.Name x px) "append" pa) [a] [] pos) none pos.line X.env = pure false := by rfl)
    (hbase : attributeBase (.Name x px) "append" X.env (eval (.Name x px) X.env) = eval (.Name x px) X.env := by rfl)
    (hfew : ((backTo pos (starEach (a :: []) X.env)).all (fun x => !x.1) && (backToKw pos (keywordEach [] X.env)).all (fun x => x.1.isSome) && decide ((a :: []).length + ([] : List Keyword).length + (if ([] : List Keyword).isEmpty then 0 else 1) < 30)) = true := by rfl)
    (hline : (pa.endLine == pos.line) = true := by rfl) (hst : starEach (a :: []) X.env = (false, eval a X.env) :: starEach [] X.env := by rfl)
    (hd : (x == ("__debug__" : Str)) = false := by decide) (hcd : (x == ("__classdict__" : Str)) = false := by decide) : PS X (.Expr (.Call (.Attribute (.Name x px) "append" pa) [a] [] pos) pos) (tS p (appS i fa)) :=
  (ps_expr (pe_bm PySem.F.plainAttrs_list PySem.F.slot_list_append PySem.F.type_list_append mt_append (pe_var hN hv hd hcd) (pa_cons ha pa_nil hst) hbase hfew hline hst) hs).imp fun D σ H ⟨g, s, r, q⟩ => by
    unfold appS at q
    cases z : ownOf s i with
    | none => rw [z] at q; exact q.elim
    | some xs =>
      rw [z] at q
      obtain ⟨a0, vs0, _, h2, h3, h4, _, _⟩ := own_addr r z
      refine ⟨.ref a0, h2, .inl ⟨rfl, _, SqL.of h3⟩, g, s, r, Post.mono (PstS.bnd (A := AV ⟨X.K, lt⟩) q) fun v H1 ⟨g1, s1, d, r1, e1, a1, q1⟩ => ?_⟩
      cases z1 : ownOf s1 i with
      | none => rw [z1] at q1; exact q1.elim
      | some ys =>
        rw [z1] at q1
        obtain ⟨a2, vs2, k1, k2, k3, k4, k5, k6⟩ := own_addr r1 z1
        rw [h2] at k2
        cases k2
        have q1 : PstS p (if ys.length < 100000 then .ok .nx { s1 with env := s1.env.set i (.own (ys ++ [d])) } else .stuck) g1 H1 D := q1
        by_cases hl : ys.length < 100000
        · rw [if_pos hl] at q1
          exact ⟨a0, vs2, v, rfl, rfl, k3, szT (by rw [← k4.length]; exact hl), q1 σ _ g1 (r1.ownw (ownOf_at z1) k1 h2 k3 (k4.append (.cons a1 .nil)) k5 k6) (g1.ownE k1)⟩
        · rw [if_neg hl] at q1
          exact q1.elim
def extS (i : Nat) (f : M D) : M Fl := fun s0 => match ownOf s0 i with
  | none => .stuck
  | some _ => bnd f (fun d s => match ownOf s i, d with
    | some xs, .lst ys => if xs.length + ys.length ≤ 100000 then .ok .nx { s with env := s.env.set i (.own (xs ++ ys)) } else .stuck
    | _, _ => .stuck) s0
theorem s_extend {i : Nat} {x : Str} {px pa : Pos} (hN : X.N[i]? = some x) (hv : Vis X.env.scope x) (ha : PE X a (tD p fa)) (hs : swapsWith (.Call (.Attribute (.Name x px) "extend" pa) [a] [] pos) none pos.line X.env = pure false := by rfl)
    (hbase : attributeBase (.Name x px) "extend" X.env (eval (.Name x px) X.env) = eval (.Name x px) X.env := by rfl)
    (hfew : ((backTo pos (starEach (a :: []) X.env)).all (fun x => !x.1) && (backToKw pos (keywordEach [] X.env)).all (fun x => x.1.isSome) && decide ((a :: []).length + ([] : List Keyword).length + (if ([] : List Keyword).isEmpty then 0 else 1) < 30)) = true := by rfl)
    (hline : (pa.endLine == pos.line) = true := by rfl) (hst : starEach (a :: []) X.env = (false, eval a X.env) :: starEach [] X.env := by rfl)
    (hd : (x == ("__debug__" : Str)) = false := by decide) (hcd : (x == ("__classdict__" : Str)) = false := by decide) : PS X (.Expr (.Call (.Attribute (.Name x px) "extend" pa) [a] [] pos) pos) (tS p (extS i fa)) :=
  (ps_expr (pe_bm PySem.F.plainAttrs_list PySem.F.slot_list_extend PySem.F.type_list_extend mt_extend (pe_var hN hv hd hcd) (pa_cons ha pa_nil hst) hbase hfew hline hst) hs).imp fun D σ H ⟨g, s, r, q⟩ => by
    unfold extS at q
    cases z : ownOf s i with
    | none => rw [z] at q; exact q.elim
    | some xs =>
      rw [z] at q
      obtain ⟨a0, vs0, _, h2, h3, h4, _, _⟩ := own_addr r z
      refine ⟨.ref a0, h2, .inl ⟨rfl, _, SqL.of h3⟩, g, s, r, Post.mono (PstS.bnd (A := AV ⟨X.K, lt⟩) q) fun v H1 ⟨g1, s1, d, r1, e1, a1, q1⟩ => ?_⟩
      cases z1 : ownOf s1 i with
      | none => rw [z1] at q1; exact q1.elim
      | some ys =>
        rw [z1] at q1
        cases d with
        | lst zs =>
          obtain ⟨a2, vs2, k1, k2, k3, k4, k5, k6⟩ := own_addr r1 z1
          rw [h2] at k2
          cases k2
          have q1 : PstS p (if ys.length + zs.length ≤ 100000 then .ok .nx { s1 with env := s1.env.set i (.own (ys ++ zs)) } else .stuck) g1 H1 D := q1
          by_cases hl : ys.length + zs.length ≤ 100000
          · rw [if_pos hl] at q1
            cases a1 with
            | @lst b ws _ w1 w2 =>
              refine ⟨a0, b, vs2, ws, rfl, rfl, k3, r1.m.sub _ _ w1, szL (by rw [← k4.length, ← w2.length]; exact hl), q1 σ _ g1 (r1.ownw (ownOf_at z1) k1 h2 k3 (k4.append w2) k5 k6) (g1.ownE k1)⟩
          · rw [if_neg hl] at q1
            exact q1.elim
        | _ => exact q1.elim
/-! ### o[i] = v, o an identity list -/
def setAt (o i d : D) : M Unit := fun s => match o, i with
  | .ref n, .int k => match s.ms[n]? with
    | some xs => match ixN xs.length k with
      | some j => .ok () { s with ms := s.ms.set n (xs.set j d) }
      | none => .stuck
    | none => .stuck
  | _, _ => .stuck
def tgtS (fo fi : M D) : Tgt := fun d => bnd fo fun o => bnd fi fun i => setAt o i d
theorem PstU.ofP {K : Kx} {p : Pm K} {σ : L2.St} {g : G} {H : Hp} {s : S} {f : M D} {k : D → M Unit} {Q : L2.St → Hp → Prop} (q : PstU p (Mp.bnd f k s) g H Q) :
    Post p σ (AP K) (f s) g H fun v H1 => ∃ g1 s1 x, RS p g1 σ H1 s1 ∧ Ext g H g1 H1 ∧ RVp K g1 H1 x v ∧ PstU p (k x s1) g1 H1 Q := by
  unfold Mp.bnd at q
  cases z : f s with
  | stuck => rw [z] at q; exact q
  | err c fs s' => rw [z] at q; exact fun H' g' dx a b c => q σ H' g' dx a b.s c
  | ok x s' =>
    rw [z] at q
    exact fun v H' g' r e a => ⟨g', s', x, r, e, a, PstU.pre e.s q⟩
theorem g_sub {o i : Expr} {fo fi : M D} (ho : PE X o (tP p fo)) (hi : PE X i (tP p fi))
    (ha : ∀ v, assign (.Subscript o i pos) X.env v = (do
      let ov ← holding [v] (eval o X.env)
      let iv ← holding [v, ov] (eval i X.env)
      standAt pos
      holding [v, ov, iv] (setItem ov iv v)
      release [v, ov, iv] []) := by intro _; rfl) : PG X (.Subscript o i pos) (gG p (tgtS fo fi)) := (pg_sub ho hi set_list ha).imp fun v σ H Q ⟨g, s, d, r, rv, q⟩ => by
  refine ⟨g, s, r, Post.mono (PstU.ofP (σ := σ) q) fun u H1 ⟨g1, s1, x, r1, e1, a1, q1⟩ => ?_⟩
  refine ⟨g1, s1, r1, Post.mono (PstU.ofP (σ := σ) q1) fun w H2 ⟨g2, s2, y, r2, e2, a2, q2⟩ => ?_⟩
  unfold setAt at q2
  cases x with
  | ref n =>
    cases y with
    | int k =>
      cases a2.int
      obtain ⟨a, ds, vs, rfl, k1, k2, k3, k4⟩ := (a1.ext e2).ref r2.m
      dsimp only at q2
      rw [k2] at q2
      dsimp only at q2
      cases z : ixN ds.length k with
      | none => rw [z] at q2; exact q2.elim
      | some j =>
        rw [z] at q2
        exact ⟨a, vs, k, j, rfl, rfl, k3, by rw [← k4.length]; exact z, q2 σ _ g2 (r2.refw k1 k2 (RVs.set (e2.rv (e1.rv rv)) j k4)) (g2.refE (List.mem_of_getElem? k1)).s⟩
    | _ => exact q2.elim
  | _ => exact q2.elim
end
end Mp

set_option Elab.async false
set_option linter.all false
set_option maxRecDepth 100000
set_option maxHeartbeats 4000000
namespace Mp
open PySem PySem.Spec L2
open PyProof.Rows hiding St

/-! ### sources: what iter() takes, by its kind -/
inductive KS where
  | lst (a : Addr) | tup (a : Addr) | txt (x : Str)
def KS.v : KS → V
  | .lst a => .ref a | .tup a => .ref a | .txt x => .str x
def chars (x : Str) : List V := x.cps.toList.map fun c => V.str ⟨#[c]⟩
def KS.at (K : PySem.W.Frag) (H : Hp) : KS → List V → Prop
  | .lst a, vs => SqL K H a vs
  | .tup a, vs => SqT K H a vs
  | .txt x, vs => vs = chars x
def KS.fp : KS → List Addr
  | .lst a => [a] | .tup a => [a] | .txt _ => []
/-- the iterator at turn i (t the text's token) -/
def KS.stt (t : Tok) : KS → Addr → Nat → Heap → Prop
  | .lst a, it, i, h => h.IsListIter it a i
  | .tup a, it, i, h => h.IsTupleIter it a i
  | .txt x, it, i, h => h.IsStrIter it (strIterType x) x t i
def KS.o (t : Tok) : KS → Obj
  | .lst a => { cls := .type "list_iterator", data := .fields #[.ref a, .int 0 0] }
  | .tup a => { cls := .type "tuple_iterator", data := .fields #[.ref a, .int 0 0] }
  | .txt x => { cls := .type (strIterType x), data := .fields #[.str x t, .int 0 0] }
def KS.u (t : Tok) : KS → Value
  | .lst a => .ref a | .tup a => .ref a | .txt x => .str x t
theorem KS.rel {k : KS} {u : Value} (h : RelV k.v u) : ∃ t, u = k.u t := by
  cases k with
  | lst a => cases h; exact ⟨0, rfl⟩
  | tup a => cases h; exact ⟨0, rfl⟩
  | txt x => exact h
theorem KS.first (k : KS) (t : Tok) {h : Heap} {it : Addr} (e : h.get? it = some (k.o t)) : k.stt t it 0 h := by
  cases k <;> exact ⟨_, e, rfl, rfl⟩
theorem KS.live (k : KS) (t : Tok) {h : Heap} {it : Addr} {i : Nat} (e : k.stt t it i h) : ∃ o, h.get? it = some o ∧ ∀ v, o.data ≠ .cell v := by
  cases k <;> (obtain ⟨o, e, c, d⟩ := e; exact ⟨o, e, fun v z => by rw [d] at z; cases z⟩)
theorem KS.keep (k : KS) (t : Tok) {h h' : Heap} {it : Addr} {i : Nat} (e : k.stt t it i h) (q : ∀ o, h.get? it = some o → h'.get? it = some o) : k.stt t it i h' := by
  cases k <;> (obtain ⟨o, e, c, d⟩ := e; exact ⟨o, q o e, c, d⟩)
def KS.P (vs : List V) (i : Nat) (u : Value) : Prop := ∃ v, vs[i]? = some v ∧ RelV v u
theorem Draws.imp {prog : Program} {w : World} {A : Around} {it : Addr} {fp : List Addr} {n : Nat} {P P' : Nat → Value → Prop} {St : Nat → Heap → Prop} (D : Draws prog w A it fp n P St) (h : ∀ i x, P i x → P' i x) : Draws prog w A it fp n P' St where
  live := D.live
  frame := D.frame
  item := fun i s Q E hi st hQ => D.item i s Q E hi st fun x h' tk hP => hQ x h' tk (h i x hP)
  done := D.done
/-- what a source draws, as things stand now -/
theorem KS.draws {X : Cx} {pins : List (Addr × Obj)} {σ : L2.St} {H : Hp} {s : Shared} (I : Inv X pins σ H s) (k : KS) (t : Tok) {vs : List V} (hk : k.at X.K H vs) :
    ∃ C : Heap → Prop, C s.heap ∧ Begins (k.u t) (k.o t) C ∧ (∀ b ∈ k.fp, b < s.heap.objs.size) ∧
      ∀ (A : Around) (it : Addr), A.handled = none → it ∉ k.fp → Draws X.prog X.w A it (it :: k.fp) vs.length (KS.P vs) (fun i h => k.stt t it i h ∧ C h) := by
  cases k with
  | lst a =>
    obtain ⟨its, rv, p, hz⟩ := I.list hk
    have hl := rv.length
    refine ⟨fun h => h.IsList a its.toArray, p.isList, begins_list a _, fun b hb => ?_, fun A it hh hne => ?_⟩
    · have e : b = a := by simpa [KS.fp] using hb
      subst e
      obtain ⟨o, e1, e2, _⟩ := p.isList
      exact Heap.lt_size e1
    · have D := Draws.list (prog := X.prog) (w := X.w) (A := A) hh it a (fun e => hne (by simp [KS.fp, e])) its.toArray
      have hs : its.toArray.size = vs.length := by simp [hl]
      rw [hs] at D
      exact Draws.imp D fun i x hx => by
        have hx : its[i]? = some x := by simpa using hx
        obtain ⟨v, h1, h2⟩ : ∃ v, vs[i]? = some v ∧ RelV v x := by
          have hlt : i < vs.length := by rw [hl]; exact (List.getElem?_eq_some_iff.mp hx).1
          obtain ⟨u, hu, ru⟩ := rv.get (List.getElem?_eq_getElem hlt)
          rw [hx] at hu
          cases hu
          exact ⟨_, List.getElem?_eq_getElem hlt, ru⟩
        exact ⟨v, h1, h2⟩
  | tup a =>
    obtain ⟨its, rv, p, hz⟩ := I.tuple hk
    have p' : s.heap.IsTuple a its.toArray := p
    have hl := rv.length
    refine ⟨fun h => h.IsTuple a its.toArray, p', begins_tuple a _, fun b hb => ?_, fun A it hh hne => ?_⟩
    · have e : b = a := by simpa [KS.fp] using hb
      subst e
      obtain ⟨o, e1, e2, _⟩ := p'
      exact Heap.lt_size e1
    · have D := Draws.tuple (prog := X.prog) (w := X.w) (A := A) hh it a (fun e => hne (by simp [KS.fp, e])) its.toArray
      have hs : its.toArray.size = vs.length := by simp [hl]
      rw [hs] at D
      exact Draws.imp D fun i x hx => by
        have hx : its[i]? = some x := by simpa using hx
        have hlt : i < vs.length := by rw [hl]; exact (List.getElem?_eq_some_iff.mp hx).1
        obtain ⟨u, hu, ru⟩ := rv.get (List.getElem?_eq_getElem hlt)
        rw [hx] at hu
        cases hu
        exact ⟨_, List.getElem?_eq_getElem hlt, ru⟩
  | txt x =>
    have hk : vs = chars x := hk
    subst hk
    refine ⟨fun _ => True, trivial, begins_text x t, fun b hb => absurd (show b ∈ ([] : List Addr) from hb) (by simp), fun A it hh hne => ?_⟩
    have D := Draws.text (prog := X.prog) (w := X.w) (A := A) hh it x t
    have hs : x.cps.size = (chars x).length := by simp [chars]
    rw [hs] at D
    have D2 := Draws.imp (P' := KS.P (chars x)) D fun i v ⟨c, u, hc, hv⟩ => by
      subst hv
      refine ⟨.str ⟨#[c]⟩, ?_, ⟨u, rfl⟩⟩
      unfold chars
      rw [List.getElem?_map]
      rw [show x.cps.toList[i]? = some c by simpa using hc]
      rfl
    exact ⟨fun i h st => D2.live i h st.1, fun i h h' st q => ⟨D2.frame i h h' st.1 q, trivial⟩, fun i s Q E hi st hQ => D2.item i s Q E hi st.1 fun v h' tk hP st' => hQ v h' tk hP ⟨st', trivial⟩, fun s Q E st hE => D2.done s Q E st.1 hE⟩
end Mp

set_option Elab.async false
set_option linter.all false
set_option maxRecDepth 100000
set_option maxHeartbeats 4000000
namespace Mp
open PySem PySem.Spec L2
open PyProof.Rows hiding St

/-! ### enumerate(v), zip(v, u), zip(v, u, t): new tuples -/
def Je (K : PySem.W.Frag) (k : KS) : It :=
  ⟨fun i H => ∃ vs, k.at K H vs ∧ i < vs.length, fun i H x H' => ∃ T y, x = .ref T ∧ H T = none ∧ H' = upd H T (.tup [.int (i : Nat), y]) ∧ ∀ vs, k.at K H vs → vs[i]? = some y, fun i H => ∃ vs, k.at K H vs ∧ i = vs.length⟩
def Jz (K : PySem.W.Frag) (k l : KS) : It :=
  ⟨fun i H => ∃ vs us, k.at K H vs ∧ l.at K H us ∧ i < vs.length ∧ i < us.length, fun i H x H' => ∃ T y z, x = .ref T ∧ H T = none ∧ H' = upd H T (.tup [y, z]) ∧ (∀ vs, k.at K H vs → vs[i]? = some y) ∧ ∀ us, l.at K H us → us[i]? = some z,
    fun i H => ∃ vs us, k.at K H vs ∧ l.at K H us ∧ i = min vs.length us.length⟩
def Jz3 (K : PySem.W.Frag) (k l m : KS) : It :=
  ⟨fun i H => ∃ vs us ts, k.at K H vs ∧ l.at K H us ∧ m.at K H ts ∧ i < vs.length ∧ i < us.length ∧ i < ts.length, fun i H x H' => ∃ T y z w, x = .ref T ∧ H T = none ∧ H' = upd H T (.tup [y, z, w]) ∧ (∀ vs, k.at K H vs → vs[i]? = some y) ∧ (∀ us, l.at K H us → us[i]? = some z) ∧ ∀ ts, m.at K H ts → ts[i]? = some w,
    fun i H => ∃ vs us ts, k.at K H vs ∧ l.at K H us ∧ m.at K H ts ∧ i = min (min vs.length us.length) ts.length⟩
theorem KS.inj {X : Cx} {pins : List (Addr × Obj)} {σ : L2.St} {H : Hp} {s : Shared} (I : Inv X pins σ H s) (k : KS) {vs us : List V} (h1 : k.at X.K H vs) (h2 : k.at X.K H us) : vs = us := by
  cases k with
  | lst a => exact I.list_inj h1 h2
  | tup a => exact I.tuple_inj h1 h2
  | txt x => exact (show vs = chars x from h1).trans (show us = chars x from h2).symm
/-- what a step hands out -/
theorem turn_put {X : Cx} {pins : List (Addr × Obj)} {σ : L2.St} {H : Hp} {s : Shared} {h' : Heap} {tk : Nat} {wr : List Addr} {T : Addr} {vs : List V} {its : List Value} (I : Inv X pins σ H s) (hf : ∀ b ∈ wr, FpOk X pins H b)
    (kp : ∀ b o, b ∉ wr → s.heap.get? b = some o → h'.get? b = some o) (hT : s.heap.objs.size ≤ T) (hv : Vals vs its) (hl : vs.length ≤ 100) (ht : h'.IsTuple T its.toArray) : Inv X pins σ (upd H T (.tup vs)) { s with heap := h', toks := tk } :=
  I.turnedNew kp hf hT ⟨Nat.le_trans hl (by decide), its, hv, ht⟩
theorem off_T {X : Cx} {pins : List (Addr × Obj)} {H : Hp} {s : Shared} {fp : List Addr} {T : Addr} {o : HO} (hf : ∀ b ∈ fp, FpOk X pins H b) (live : ∀ b ∈ fp, b < s.heap.objs.size) (hT : s.heap.objs.size ≤ T) : ∀ b ∈ fp, upd H T o b = none := fun b hb => by
  have := live b hb
  rw [upd_ne (Nat.ne_of_lt (Nat.lt_of_lt_of_le this hT))]
  exact (hf b hb).1
theorem turn_e {P : Program} {w : World} {K : PySem.W.Frag} {elts : List Expr} {kk : Nat} {tpos : Pos} (k : KS) (t : Tok) {e it : Addr} (hne : e ≠ it) (h1 : e ∉ k.fp) (h2 : it ∉ k.fp) :
    Turn P w K (.Tuple elts kk tpos) (Je K k) [e, it] e (fun i h => (∃ old, IsEnum h e it ((0 : Int) + (i : Nat)) old) ∧ k.stt t it i h) where
  mem := by simp
  obj := fun i h st b hb => by
    obtain ⟨⟨old, he⟩, hs⟩ := st
    rcases (by simpa using hb : b = e ∨ b = it) with z | z
    · rw [z]; exact ⟨_, he, fun v q => nomatch q⟩
    · rw [z]; exact k.live t hs
  keep := fun i h h' st kp => by
    obtain ⟨⟨old, he⟩, hs⟩ := st
    exact ⟨⟨old, kp e (by simp) _ he⟩, k.keep t hs fun o q => kp it (by simp) o q⟩
  item := by
    intro X hP hw hK hc i pins s σ H E I hf st hg
    subst hP hw hK
    obtain ⟨⟨old, he⟩, hs⟩ := st
    obtain ⟨vs, hk, hlt⟩ := hg
    obtain ⟨C, hC, _, _, D⟩ := k.draws I t hk
    have G := GoesN.enumFrom (elts := elts) (x1 := kk) (pos := tpos) 0 (D X.A.in1 it (I.ok.hd hc) h2) e hne (by simp [hne, h1]) (by simp)
    refine wpAny_mono (G.goes i s (fun v s2 => ∃ x H', Inv X pins σ H' s2 ∧ RelV x v ∧ (Je X.K k).yld i H x H' ∧ ((∃ old, IsEnum s2.heap e it ((0 : Int) + ((i + 1 : Nat) : Nat)) old) ∧ k.stt t it (i + 1) s2.heap) ∧ ∀ b ∈ [e, it], H' b = none) E hlt ⟨⟨old, he⟩, hs, hC⟩ fun v h' tk hY st' kp _ => ?_) (fun r s1 h => h) (fun _ _ h => h)
    obtain ⟨T, t', x, rfl, hT, ⟨y, hy, ry⟩, htup⟩ := hY
    have e0 : (0 : Int) + (i : Int) = (i : Int) := by omega
    rw [e0] at htup
    have hlive : ∀ b ∈ [e, it], b < s.heap.objs.size := fun b hb => by
      rcases (by simpa using hb : b = e ∨ b = it) with z | z
      · rw [z]; exact Heap.lt_size he
      · obtain ⟨o, q, _⟩ := k.live t hs
        rw [z]; exact Heap.lt_size q
    exact ⟨.ref T, upd H T (.tup [.int (i : Nat), y]), turn_put I (wr := [e, it]) hf kp hT (its := [.int i t', x]) (.cons ⟨t', rfl⟩ (.cons ry .nil)) (by simp) htup, rfl, ⟨T, y, rfl, I.hok.fresh hT, rfl, fun us hu => by rw [k.inj I hu hk]; exact hy⟩, ⟨st'.1, st'.2.1⟩, off_T hf hlive hT⟩
  done := by
    intro X hP hw hK hc i pins s σ H E I hf st hg
    subst hP hw hK
    obtain ⟨⟨old, he⟩, hs⟩ := st
    obtain ⟨vs, hk, rfl⟩ := hg
    obtain ⟨C, hC, _, _, D⟩ := k.draws I t hk
    have G := GoesN.enumFrom (elts := elts) (x1 := kk) (pos := tpos) 0 (D X.A.in1 it (I.ok.hd hc) h2) e hne (by simp [hne, h1]) (by simp)
    exact G.stops s (fun s2 => Inv X pins σ H s2) E ⟨⟨old, he⟩, hs, hC⟩ fun h' tk kp _ => I.turnedL (t' := tk) (ch := [e, it]) kp hf
  self := fun A i s Q E st h => let ⟨⟨_, he⟩, _⟩ := st; wpAny_pyIter_enum he h
/-- enumerate(v), by how v's iterator begins -/
theorem meets_enum1 {v : Value} {o : Obj} {H : Heap → Prop} (B : Begins v o H) :
    Meets (Builtin.«enumerate.__new__» ⟨[.type "enumerate", v], []⟩) (fun _ R s => H s.heap ∧
      R (.ok (.ret (.ref (s.heap.push o).objs.size))) { s with heap := (s.heap.push o).push { cls := .type "enumerate", data := .fields #[.none, .bool false, .ref s.heap.objs.size, rawInt 0, .none, .none] } }) :=
  .of_wp fun prog w A R s h => by
    obtain ⟨hp, g, d, tk, os⟩ := s; obtain ⟨h1, h⟩ := h
    have hsub := sub_enumerate
    have q1 : ∀ {A' : Around} {E : Value → Shared → Prop} {Q : Value → Shared → Prop}, Q (.ref hp.objs.size) ⟨hp.push o, g, d, tk, os⟩ → wpAny (model prog w) A' (pyIter v) Q E ⟨hp, g, d, tk, os⟩ :=
      fun q => B.iter prog w _ _ ⟨hp, g, d, tk, os⟩ _ h1 q
    wp_walk using q1
    refine wpAny_stack_any fun st => wpAny_pure ?_
    split
    · rename_i c _ _ _ _ _
      cases (c == Value.type "enumerate")
      · wp_walk using q1
        exact ⟨_, rfl, h⟩
      · wp_walk using q1
        exact ⟨_, rfl, h⟩
    · wp_walk using q1
      exact ⟨_, rfl, h⟩
theorem call_enum1 {prog : Program} {w : World} {A : Around} {E : Value → Shared → Prop} {s : Shared} {v : Value} {o : Obj} {C : Heap → Prop} {Q : Value → Shared → Prop} (B : Begins v o C) (h1 : C s.heap)
    (h : ∀ h', IsEnum h' (s.heap.objs.size + 1) s.heap.objs.size 0 .none → h'.get? s.heap.objs.size = some o → (∀ b o, s.heap.get? b = some o → h'.get? b = some o) → Q (.ref (s.heap.objs.size + 1)) { s with heap := h' }) :
    wpAny (model prog w) A (call (.type "enumerate") [v]) Q E s := by
  refine callType_new F.called_enumerate (by decide) (F.typeCall_enumerate_1 _) (F.newCall_enumerate_1 _) (fun obj => F.args_object_init_2 obj _) F.entry_enumerate_new
    (meets_enum1 B) ⟨h1, ?_⟩
  have hz : (s.heap.push o).objs.size = s.heap.objs.size + 1 := Heap.size_push ..
  show _ ∧ _
  rw [hz]
  have he : IsEnum ((s.heap.push o).push { cls := .type "enumerate", data := .fields #[.none, .bool false, .ref s.heap.objs.size, rawInt 0, .none, .none] }) (s.heap.objs.size + 1) s.heap.objs.size 0 .none := by
    have := Heap.get?_push_size (s.heap.push o) (o := { cls := .type "enumerate", data := .fields #[.none, .bool false, .ref s.heap.objs.size, rawInt 0, .none, .none] }) rfl
    rw [hz] at this; exact this
  exact ⟨⟨_, he, rfl⟩, h _ he (Heap.get?_push_of_some _ (Heap.get?_push_size _ B.free)) fun b o x => Heap.get?_push_of_some _ (Heap.get?_push_of_some _ x)⟩
/-! ### zip -/
theorem turn_z {P : Program} {w : World} {K : PySem.W.Frag} {elts : List Expr} {kk : Nat} {tpos : Pos} (k l : KS) (t u : Tok) {z TI TO i1 i2 : Addr} (S : ZipSep2 z TI TO i1 i2 (i1 :: k.fp) (i2 :: l.fp)) (n1 : i1 ∉ k.fp) (n2 : i2 ∉ l.fp) :
    Turn P w K (.Tuple elts kk tpos) (Jz K k l) [z, TI, TO, i1, i2] z (fun i h => IsZip h z TI TO .none ∧ IsTupOf2 h TI (.ref i1) (.ref i2) ∧ (∃ a1 a2, IsTupOf2 h TO a1 a2) ∧ k.stt t i1 i h ∧ l.stt u i2 i h) where
  mem := by simp
  obj := fun i h st c hc => by
    obtain ⟨hz, hTI, ⟨x, y, hTO⟩, h1, h2⟩ := st
    have e' : c = z ∨ c = TI ∨ c = TO ∨ c = i1 ∨ c = i2 := by simpa using hc
    rcases e' with q | q | q | q | q
    · rw [q]; exact ⟨_, hz, fun v q => nomatch q⟩
    · rw [q]; exact ⟨_, hTI, fun v q => nomatch q⟩
    · rw [q]; exact ⟨_, hTO, fun v q => nomatch q⟩
    · rw [q]; exact k.live t h1
    · rw [q]; exact l.live u h2
  keep := fun i h h' st kp => by
    obtain ⟨hz, hTI, ⟨x, y, hTO⟩, h1, h2⟩ := st
    exact ⟨kp z (by simp) _ hz, kp TI (by simp) _ hTI, ⟨x, y, kp TO (by simp) _ hTO⟩, k.keep t h1 fun o q => kp i1 (by simp) o q, l.keep u h2 fun o q => kp i2 (by simp) o q⟩
  item := by
    intro X hP hw hK hc i pins s σ H E I hf st hg
    subst hP hw hK
    obtain ⟨hz, hTI, hTO, hs1, hs2⟩ := id st
    obtain ⟨vs, us, hk, hl, hlt1, hlt2⟩ := hg
    obtain ⟨C1, hC1, _, _, D1⟩ := k.draws I t hk
    obtain ⟨C2, hC2, _, _, D2⟩ := l.draws I u hl
    have G := GoesN.zip2 (elts := elts) (x1 := kk) (pos := tpos) S (D1 X.A.in1 i1 (I.ok.hd hc) n1) (D2 X.A.in1 i2 (I.ok.hd hc) n2)
    refine G.goes i s (fun v s2 => ∃ x H', Inv X pins σ H' s2 ∧ RelV x v ∧ (Jz X.K k l).yld i H x H' ∧ (IsZip s2.heap z TI TO .none ∧ IsTupOf2 s2.heap TI (.ref i1) (.ref i2) ∧ (∃ a1 a2, IsTupOf2 s2.heap TO a1 a2) ∧ k.stt t i1 (i + 1) s2.heap ∧ l.stt u i2 (i + 1) s2.heap) ∧ ∀ b ∈ [z, TI, TO, i1, i2], H' b = none) E (by omega) ⟨hz, hTI, hTO, ⟨hs1, hC1⟩, hs2, hC2⟩ fun v h' tk hY st' kp _ => ?_
    obtain ⟨T, x, y, rfl, hT, ⟨v1, hv1, r1⟩, ⟨v2, hv2, r2⟩, htup⟩ := hY
    have hlive : ∀ b ∈ [z, TI, TO, i1, i2], b < s.heap.objs.size := fun b hb => by
      obtain ⟨x, y, hTO⟩ := hTO
      have e' : b = z ∨ b = TI ∨ b = TO ∨ b = i1 ∨ b = i2 := by simpa using hb
      rcases e' with q | q | q | q | q
      · rw [q]; exact Heap.lt_size hz
      · rw [q]; exact Heap.lt_size hTI
      · rw [q]; exact Heap.lt_size hTO
      · obtain ⟨o, e, _⟩ := k.live t hs1
        rw [q]; exact Heap.lt_size e
      · obtain ⟨o, e, _⟩ := l.live u hs2
        rw [q]; exact Heap.lt_size e
    exact ⟨.ref T, upd H T (.tup [v1, v2]), turn_put I (wr := [z, TO, i1, i2]) (fun b hb => hf b (by
      have e' : b = z ∨ b = TO ∨ b = i1 ∨ b = i2 := by simpa using hb
      rcases e' with q | q | q | q <;> simp [q])) kp hT (its := [x, y]) (.cons r1 (.cons r2 .nil)) (by simp) htup, rfl, ⟨T, v1, v2, rfl, I.hok.fresh hT, rfl, fun us hu => by rw [k.inj I hu hk]; exact hv1, fun us hu => by rw [l.inj I hu hl]; exact hv2⟩,
      ⟨st'.1, st'.2.1, st'.2.2.1, st'.2.2.2.1.1, st'.2.2.2.2.1⟩, off_T hf hlive hT⟩
  done := by
    intro X hP hw hK hc i pins s σ H E I hf st hg
    subst hP hw hK
    obtain ⟨hz, hTI, hTO, hs1, hs2⟩ := id st
    obtain ⟨vs, us, hk, hl, rfl⟩ := hg
    obtain ⟨C1, hC1, _, _, D1⟩ := k.draws I t hk
    obtain ⟨C2, hC2, _, _, D2⟩ := l.draws I u hl
    have G := GoesN.zip2 (elts := elts) (x1 := kk) (pos := tpos) S (D1 X.A.in1 i1 (I.ok.hd hc) n1) (D2 X.A.in1 i2 (I.ok.hd hc) n2)
    exact G.stops s (fun s2 => Inv X pins σ H s2) E ⟨hz, hTI, hTO, ⟨hs1, hC1⟩, hs2, hC2⟩ fun h' tk kp _ => I.turnedL (t' := tk) (ch := [z, TO, i1, i2]) kp (fun b hb => hf b (by
      have e' : b = z ∨ b = TO ∨ b = i1 ∨ b = i2 := by simpa using hb
      rcases e' with q | q | q | q <;> simp [q]))
  self := fun A i s Q E st h => wpAny_pyIter_zip st.1 h
theorem turn_z3 {P : Program} {w : World} {K : PySem.W.Frag} {elts : List Expr} {kk : Nat} {tpos : Pos} (k l m : KS) (t u v : Tok) {z TI TO i1 i2 i3 : Addr} (S : ZipSep3 z TI TO i1 i2 i3 (i1 :: k.fp) (i2 :: l.fp) (i3 :: m.fp)) (n1 : i1 ∉ k.fp) (n2 : i2 ∉ l.fp) (n3 : i3 ∉ m.fp) :
    Turn P w K (.Tuple elts kk tpos) (Jz3 K k l m) [z, TI, TO, i1, i2, i3] z (fun i h => IsZip h z TI TO .none ∧ IsTupOf3 h TI (.ref i1) (.ref i2) (.ref i3) ∧ (∃ a1 a2 a3, IsTupOf3 h TO a1 a2 a3) ∧ k.stt t i1 i h ∧ l.stt u i2 i h ∧ m.stt v i3 i h) where
  mem := by simp
  obj := fun i h st c hc => by
    obtain ⟨hz, hTI, ⟨x, y, w, hTO⟩, h1, h2, h3⟩ := st
    have e' : c = z ∨ c = TI ∨ c = TO ∨ c = i1 ∨ c = i2 ∨ c = i3 := by simpa using hc
    rcases e' with q | q | q | q | q | q
    · rw [q]; exact ⟨_, hz, fun v q => nomatch q⟩
    · rw [q]; exact ⟨_, hTI, fun v q => nomatch q⟩
    · rw [q]; exact ⟨_, hTO, fun v q => nomatch q⟩
    · rw [q]; exact k.live t h1
    · rw [q]; exact l.live u h2
    · rw [q]; exact m.live v h3
  keep := fun i h h' st kp => by
    obtain ⟨hz, hTI, ⟨x, y, w, hTO⟩, h1, h2, h3⟩ := st
    exact ⟨kp z (by simp) _ hz, kp TI (by simp) _ hTI, ⟨x, y, w, kp TO (by simp) _ hTO⟩, k.keep t h1 fun o q => kp i1 (by simp) o q, l.keep u h2 fun o q => kp i2 (by simp) o q, m.keep v h3 fun o q => kp i3 (by simp) o q⟩
  item := by
    intro X hP hw hK hc i pins s σ H E I hf st hg
    subst hP hw hK
    obtain ⟨hz, hTI, hTO, hs1, hs2, hs3⟩ := id st
    obtain ⟨vs, us, ts, hk, hl, hm, hlt1, hlt2, hlt3⟩ := hg
    obtain ⟨C1, hC1, _, _, D1⟩ := k.draws I t hk
    obtain ⟨C2, hC2, _, _, D2⟩ := l.draws I u hl
    obtain ⟨C3, hC3, _, _, D3⟩ := m.draws I v hm
    have G := GoesN.zip3 (elts := elts) (x1 := kk) (pos := tpos) S (D1 X.A.in1 i1 (I.ok.hd hc) n1) (D2 X.A.in1 i2 (I.ok.hd hc) n2) (D3 X.A.in1 i3 (I.ok.hd hc) n3)
    refine G.goes i s (fun q s2 => ∃ x H', Inv X pins σ H' s2 ∧ RelV x q ∧ (Jz3 X.K k l m).yld i H x H' ∧ (IsZip s2.heap z TI TO .none ∧ IsTupOf3 s2.heap TI (.ref i1) (.ref i2) (.ref i3) ∧ (∃ a1 a2 a3, IsTupOf3 s2.heap TO a1 a2 a3) ∧ k.stt t i1 (i + 1) s2.heap ∧ l.stt u i2 (i + 1) s2.heap ∧ m.stt v i3 (i + 1) s2.heap) ∧ ∀ b ∈ [z, TI, TO, i1, i2, i3], H' b = none) E (by omega) ⟨hz, hTI, hTO, ⟨hs1, hC1⟩, ⟨hs2, hC2⟩, hs3, hC3⟩ fun q h' tk hY st' kp _ => ?_
    obtain ⟨T, x, y, w, rfl, hT, ⟨v1, hv1, r1⟩, ⟨v2, hv2, r2⟩, ⟨v3, hv3, r3⟩, htup⟩ := hY
    have hlive : ∀ b ∈ [z, TI, TO, i1, i2, i3], b < s.heap.objs.size := fun b hb => by
      obtain ⟨x, y, w, hTO⟩ := hTO
      have e' : b = z ∨ b = TI ∨ b = TO ∨ b = i1 ∨ b = i2 ∨ b = i3 := by simpa using hb
      rcases e' with q | q | q | q | q | q
      · rw [q]; exact Heap.lt_size hz
      · rw [q]; exact Heap.lt_size hTI
      · rw [q]; exact Heap.lt_size hTO
      · obtain ⟨o, e, _⟩ := k.live t hs1
        rw [q]; exact Heap.lt_size e
      · obtain ⟨o, e, _⟩ := l.live u hs2
        rw [q]; exact Heap.lt_size e
      · obtain ⟨o, e, _⟩ := m.live v hs3
        rw [q]; exact Heap.lt_size e
    exact ⟨.ref T, upd H T (.tup [v1, v2, v3]), turn_put I (wr := [z, TO, i1, i2, i3]) (fun b hb => hf b (by
      have e' : b = z ∨ b = TO ∨ b = i1 ∨ b = i2 ∨ b = i3 := by simpa using hb
      rcases e' with q | q | q | q | q <;> simp [q])) kp hT (its := [x, y, w]) (.cons r1 (.cons r2 (.cons r3 .nil))) (by simp) htup, rfl, ⟨T, v1, v2, v3, rfl, I.hok.fresh hT, rfl, fun us hu => by rw [k.inj I hu hk]; exact hv1, fun us hu => by rw [l.inj I hu hl]; exact hv2, fun us hu => by rw [m.inj I hu hm]; exact hv3⟩,
      ⟨st'.1, st'.2.1, st'.2.2.1, st'.2.2.2.1.1, st'.2.2.2.2.1.1, st'.2.2.2.2.2.1⟩, off_T hf hlive hT⟩
  done := by
    intro X hP hw hK hc i pins s σ H E I hf st hg
    subst hP hw hK
    obtain ⟨hz, hTI, hTO, hs1, hs2, hs3⟩ := id st
    obtain ⟨vs, us, ts, hk, hl, hm, rfl⟩ := hg
    obtain ⟨C1, hC1, _, _, D1⟩ := k.draws I t hk
    obtain ⟨C2, hC2, _, _, D2⟩ := l.draws I u hl
    obtain ⟨C3, hC3, _, _, D3⟩ := m.draws I v hm
    have G := GoesN.zip3 (elts := elts) (x1 := kk) (pos := tpos) S (D1 X.A.in1 i1 (I.ok.hd hc) n1) (D2 X.A.in1 i2 (I.ok.hd hc) n2) (D3 X.A.in1 i3 (I.ok.hd hc) n3)
    exact G.stops s (fun s2 => Inv X pins σ H s2) E ⟨hz, hTI, hTO, ⟨hs1, hC1⟩, ⟨hs2, hC2⟩, hs3, hC3⟩ fun h' tk kp _ => I.turnedL (t' := tk) (ch := [z, TO, i1, i2, i3]) kp (fun b hb => hf b (by
      have e' : b = z ∨ b = TO ∨ b = i1 ∨ b = i2 ∨ b = i3 := by simpa using hb
      rcases e' with q | q | q | q | q <;> simp [q]))
  self := fun A i s Q E st h => wpAny_pyIter_zip st.1 h
end Mp

set_option Elab.async false
set_option linter.all false
set_option maxRecDepth 100000
set_option maxHeartbeats 4000000
namespace Mp
open PySem PySem.Spec L2
open PyProof.Rows hiding St

/-- what a loop walks tells xs -/
structure ItD (K : Kx) (J : It) (g : G) (H : Hp) (xs : List D) : Prop where
  go : ∀ g' H' (i : Nat), ExtS g H g' H' → (∀ a o, g'.F a = some o → H' a = some o) → i < xs.length → J.go i H'
  stop : ∀ g' H', ExtS g H g' H' → (∀ a o, g'.F a = some o → H' a = some o) → J.stop xs.length H'
  yld : ∀ g' H' (i : Nat) x H'', ExtS g H g' H' → (∀ a o, g'.F a = some o → H' a = some o) → i < xs.length → J.yld i H' x H'' → ∃ d, xs[i]? = some d ∧
    ((H'' = H' ∧ RV K g'.F g'.φ d x) ∨ ∃ T vs ds, d = .tup ds ∧ x = .ref T ∧ H' T = none ∧ H'' = upd H' T (.tup vs) ∧ RVs K g'.F g'.φ ds vs)
abbrev AI (K : Kx) : List D → It → G → Hp → G → Hp → Prop := fun xs J _ _ g' H' => ItD K J g' H' xs
abbrev tI {K : Kx} (p : Pm K) (f : M (List D)) : TI := tG p (AI K) f
theorem preI {K : Kx} : Pre (AI K) := fun _ _ _ _ _ _ _ _ _ a => a
def charD (x : Str) : List D := x.cps.toList.map fun c => D.str ⟨#[c]⟩
def srcD : D → Option (List D)
  | .lst xs => some xs
  | .tup xs => some xs
  | .scr xs => some xs
  | .str x => some (charD x)
  | _ => none
theorem KS.up {K : PySem.W.Frag} {F F' : Hp} (k : KS) {xs : List V} (h : ∀ a o, F a = some o → F' a = some o) (q : k.at K F xs) : k.at K F' xs := by
  cases k with
  | lst a => exact SqL.up h q
  | tup a => exact SqT.up h q
  | txt x => exact q
theorem RVs.chars {K : Kx} {F : Hp} {φ : List Addr} (l : List Nat) : RVs K F φ (l.map fun c => D.str ⟨#[c]⟩) (l.map fun c => V.str ⟨#[c]⟩) := by
  induction l with
  | nil => exact .nil
  | cons c l ih => exact .cons (.str _) ih
theorem src_of {K : Kx} {F : Hp} {φ : List Addr} {d : D} {v : V} {ds : List D} (r : RV K F φ d v) (h : srcD d = some ds) : ∃ (k : KS) (vs : List V), k.v = v ∧ k.at K.K F vs ∧ RVs K F φ ds vs := by
  cases r with
  | @tup a vs _ s q => cases h; exact ⟨.tup a, vs, rfl, s, q⟩
  | @lst a vs _ s q => cases h; exact ⟨.lst a, vs, rfl, SqL.of s, q⟩
  | @scr a vs _ s q => cases h; exact ⟨.lst a, vs, rfl, s, q⟩
  | str x => cases h; exact ⟨.txt x, chars x, rfl, rfl, RVs.chars x.cps.toList⟩
  | _ => cases h
/-- the plain walk of a source -/
def KS.it (K : PySem.W.Frag) : KS → It
  | .lst a => Itl K a | .tup a => Itt K a | .txt x => Its x
theorem KS.itD {K : Kx} {g : G} {H : Hp} {ds : List D} {vs : List V} (k : KS) (h : k.at K.K g.F vs) (r : RVs K g.F g.φ ds vs) : ItD K (k.it K.K) g H ds := by
  have hl := r.length
  refine ⟨fun g' H' i e sub hi => ?_, fun g' H' e sub => ?_, fun g' H' i x H'' e sub hi y => ?_⟩
  · have h' : k.at K.K H' vs := k.up (fun a o z => sub a o (e.fr a o z)) h
    cases k with
    | lst a => exact ⟨vs, vs[i]'(by omega), h', by simp [show i < vs.length by omega]⟩
    | tup a => exact ⟨vs, vs[i]'(by omega), h', by simp [show i < vs.length by omega]⟩
    | txt x =>
      have h2 : vs = chars x := h
      show i < x.cps.size
      rw [h2] at hl
      simp [chars] at hl
      omega
  · have h' : k.at K.K H' vs := k.up (fun a o z => sub a o (e.fr a o z)) h
    cases k with
    | lst a => exact ⟨vs, h', by omega⟩
    | tup a => exact ⟨vs, h', by omega⟩
    | txt x =>
      have h2 : vs = chars x := h
      show x.cps.size ≤ ds.length
      rw [h2] at hl
      simp [chars] at hl
      omega
  · have h' : k.at K.K H' vs := k.up (fun a o z => sub a o (e.fr a o z)) h
    obtain ⟨v, hv, rv⟩ := r.getD (List.getElem?_eq_getElem hi)
    refine ⟨ds[i], List.getElem?_eq_getElem hi, .inl ?_⟩
    cases k with
    | lst a =>
      obtain ⟨e1, e2⟩ := y
      have := e2 vs h'
      rw [hv] at this
      cases this
      exact ⟨e1, e.rv rv⟩
    | tup a =>
      obtain ⟨e1, e2⟩ := y
      have := e2 vs h'
      rw [hv] at this
      cases this
      exact ⟨e1, e.rv rv⟩
    | txt x =>
      obtain ⟨e1, c, e2, e3⟩ := y
      have h2 : vs = chars x := h
      rw [h2] at hv
      unfold chars at hv
      rw [List.getElem?_map, show x.cps.toList[i]? = some c by simpa using e2] at hv
      have e4 : V.str ⟨#[c]⟩ = v := Option.some.inj hv
      rw [e3, e4]
      exact ⟨e1, e.rv rv⟩
/-- new pairs -/
def enumL (ds : List D) : List D := (List.range ds.length).map fun i => .tup [.int (i : Nat), ds.getD i .non]
def zipL (ds es : List D) : List D := (List.range (min ds.length es.length)).map fun i => .tup [ds.getD i .non, es.getD i .non]
def zip3L (ds es fs : List D) : List D := (List.range (min (min ds.length es.length) fs.length)).map fun i => .tup [ds.getD i .non, es.getD i .non, fs.getD i .non]
theorem getD_of {ds : List D} {i : Nat} {d : D} (h : ds[i]? = some d) : ds.getD i .non = d := by
  rw [List.getD_eq_getElem?_getD, h]; rfl
theorem KS.enD {K : Kx} {g : G} {H : Hp} {ds : List D} {vs : List V} (k : KS) (h : k.at K.K g.F vs) (r : RVs K g.F g.φ ds vs) : ItD K (Je K.K k) g H (enumL ds) := by
  have hl := r.length
  have hn : (enumL ds).length = ds.length := by simp [enumL]
  refine ⟨fun g' H' i e sub hi => ⟨vs, k.up (fun a o z => sub a o (e.fr a o z)) h, by omega⟩, fun g' H' e sub => ⟨vs, k.up (fun a o z => sub a o (e.fr a o z)) h, by omega⟩, fun g' H' i x H'' e sub hi y => ?_⟩
  obtain ⟨T, y, rfl, hT, rfl, hy⟩ := y
  have hi' : i < ds.length := by omega
  obtain ⟨v, hv, rv⟩ := r.getD (List.getElem?_eq_getElem hi')
  have := hy vs (k.up (fun a o z => sub a o (e.fr a o z)) h)
  rw [hv] at this
  cases this
  refine ⟨.tup [.int (i : Nat), ds[i]], ?_, .inr ⟨T, _, _, rfl, rfl, hT, rfl, .cons (.int _) (.cons (e.rv rv) .nil)⟩⟩
  unfold enumL
  rw [List.getElem?_map, List.getElem?_range hi']
  simp [List.getElem?_eq_getElem hi']
theorem KS.zipD {K : Kx} {g : G} {H : Hp} {ds es : List D} {vs us : List V} (k l : KS) (h : k.at K.K g.F vs) (r : RVs K g.F g.φ ds vs) (h2 : l.at K.K g.F us) (r2 : RVs K g.F g.φ es us) : ItD K (Jz K.K k l) g H (zipL ds es) := by
  have hl := r.length
  have hl2 := r2.length
  have hn : (zipL ds es).length = min ds.length es.length := by simp [zipL]
  refine ⟨fun g' H' i e sub hi => ⟨vs, us, k.up (fun a o z => sub a o (e.fr a o z)) h, l.up (fun a o z => sub a o (e.fr a o z)) h2, by omega, by omega⟩, fun g' H' e sub => ⟨vs, us, k.up (fun a o z => sub a o (e.fr a o z)) h, l.up (fun a o z => sub a o (e.fr a o z)) h2, by omega⟩, fun g' H' i x H'' e sub hi y => ?_⟩
  obtain ⟨T, y, z, rfl, hT, rfl, hy, hz⟩ := y
  have hi1 : i < ds.length := by omega
  have hi2 : i < es.length := by omega
  obtain ⟨v, hv, rv⟩ := r.getD (List.getElem?_eq_getElem hi1)
  obtain ⟨u, hu, ru⟩ := r2.getD (List.getElem?_eq_getElem hi2)
  have z1 := hy vs (k.up (fun a o z => sub a o (e.fr a o z)) h)
  have z2 := hz us (l.up (fun a o z => sub a o (e.fr a o z)) h2)
  rw [hv] at z1
  rw [hu] at z2
  cases z1
  cases z2
  refine ⟨.tup [ds[i], es[i]], ?_, .inr ⟨T, _, _, rfl, rfl, hT, rfl, .cons (e.rv rv) (.cons (e.rv ru) .nil)⟩⟩
  unfold zipL
  rw [List.getElem?_map, List.getElem?_range (by omega)]
  simp [List.getElem?_eq_getElem hi1, List.getElem?_eq_getElem hi2]
theorem KS.zip3D {K : Kx} {g : G} {H : Hp} {ds es fs : List D} {vs us ts : List V} (k l m : KS) (h : k.at K.K g.F vs) (r : RVs K g.F g.φ ds vs) (h2 : l.at K.K g.F us) (r2 : RVs K g.F g.φ es us) (h3 : m.at K.K g.F ts) (r3 : RVs K g.F g.φ fs ts) : ItD K (Jz3 K.K k l m) g H (zip3L ds es fs) := by
  have hl := r.length
  have hl2 := r2.length
  have hl3 := r3.length
  have hn : (zip3L ds es fs).length = min (min ds.length es.length) fs.length := by simp [zip3L]
  refine ⟨fun g' H' i e sub hi => ⟨vs, us, ts, k.up (fun a o z => sub a o (e.fr a o z)) h, l.up (fun a o z => sub a o (e.fr a o z)) h2, m.up (fun a o z => sub a o (e.fr a o z)) h3, by omega, by omega, by omega⟩, fun g' H' e sub => ⟨vs, us, ts, k.up (fun a o z => sub a o (e.fr a o z)) h, l.up (fun a o z => sub a o (e.fr a o z)) h2, m.up (fun a o z => sub a o (e.fr a o z)) h3, by omega⟩, fun g' H' i x H'' e sub hi y => ?_⟩
  obtain ⟨T, y, z, w, rfl, hT, rfl, hy, hz, hw⟩ := y
  have hi1 : i < ds.length := by omega
  have hi2 : i < es.length := by omega
  have hi3 : i < fs.length := by omega
  obtain ⟨v, hv, rv⟩ := r.getD (List.getElem?_eq_getElem hi1)
  obtain ⟨u, hu, ru⟩ := r2.getD (List.getElem?_eq_getElem hi2)
  obtain ⟨t, ht, rt⟩ := r3.getD (List.getElem?_eq_getElem hi3)
  have z1 := hy vs (k.up (fun a o z => sub a o (e.fr a o z)) h)
  have z2 := hz us (l.up (fun a o z => sub a o (e.fr a o z)) h2)
  have z3 := hw ts (m.up (fun a o z => sub a o (e.fr a o z)) h3)
  rw [hv] at z1
  rw [hu] at z2
  rw [ht] at z3
  cases z1
  cases z2
  cases z3
  refine ⟨.tup [ds[i], es[i], fs[i]], ?_, .inr ⟨T, _, _, rfl, rfl, hT, rfl, .cons (e.rv rv) (.cons (e.rv ru) (.cons (e.rv rt) .nil))⟩⟩
  unfold zip3L
  rw [List.getElem?_map, List.getElem?_range (by omega)]
  simp [List.getElem?_eq_getElem hi1, List.getElem?_eq_getElem hi2, List.getElem?_eq_getElem hi3]
/-- lo, lo + 1, .. -/
def rangeD (lo hi : Int) : List D := (List.range (hi - lo).toNat).map fun i => .int (lo + (i : Nat))
theorem rangeItD {K : Kx} {g : G} {H : Hp} (lo hi : Int) : ItD K (Itr lo (hi - lo).toNat) g H (rangeD lo hi) := by
  have hn : (rangeD lo hi).length = (hi - lo).toNat := by simp [rangeD]
  refine ⟨fun g' H' i e sub hi' => ?_, fun g' H' e sub => ?_, fun g' H' i x H'' e sub hi' y => ?_⟩
  · show i < (hi - lo).toNat
    omega
  · show (hi - lo).toNat ≤ (rangeD lo hi).length
    omega
  · obtain ⟨e1, e2⟩ := y
    refine ⟨.int (lo + (i : Nat)), ?_, .inl ⟨e1, by rw [e2]; exact .int _⟩⟩
    unfold rangeD
    rw [List.getElem?_map, List.getElem?_range (by omega)]
    rfl
section
variable {X : Cx} {lt : Nat → LamI} {p : Pm ⟨X.K, lt⟩} {e a b c tg : Expr} {es : List Expr} {pos pf : Pos} {fa fb fc : M D} {fl : M (List D)}
def seqI (f : M D) : M (List D) := bnd f fun d => lift (srcD d)
theorem liftP {K : Kx} {p : Pm K} {σ : L2.St} {g : G} {H : Hp} {s : S} {α β : Type} {A : α → β → G → Hp → G → Hp → Prop} {o : Option α} {Q : β → Hp → Prop} (h : Post p σ A (lift o s) g H Q) : ∃ x, o = some x ∧ ∀ v H' g', RS p g' σ H' s → Ext g H g' H' → A x v g H g' H' → Q v H' := by
  unfold lift at h
  cases o with
  | none => exact h.elim
  | some x => exact ⟨x, rfl, h⟩
theorem i_seq (he : PE X e (tD p fa)) : PI X tg e (tI p (seqI fa)) := by
  refine ⟨fun pins s σ H R I h => ?_⟩
  obtain ⟨g, s', r, q⟩ := seqV (K := ⟨X.K, lt⟩) preI h
  refine thn (he.run pins s σ H _ I ⟨g, s', r, q⟩) fun v s1 ⟨x, H1, I1, r1, g1, s1', d, rs1, rv, q1⟩ => ?_
  obtain ⟨ds, hd, q2⟩ := liftP q1
  obtain ⟨k, vs, rfl, hk, rr⟩ := src_of rv hd
  have q3 := q2 _ H1 g1 rs1 (.refl _ _) (k.itD hk rr)
  have hk' := k.up rs1.m.sub hk
  cases k with
  | lst a =>
    cases r1
    obtain ⟨its, rw', pl, hz⟩ := I1.list hk'
    exact wpAny_pyIter_list pl.isList (pi_one (tk := s1.toks) I1 _ (turn_list a _) ⟨_, Heap.get?_push_size _ rfl, rfl, rfl⟩ q3)
  | tup a =>
    cases r1
    obtain ⟨its, rw', pl, hz⟩ := I1.tuple hk'
    exact wpAny_pyIter_tuple (show s1.heap.IsTuple a its.toArray from pl) (pi_one (tk := s1.toks) I1 _ (turn_tuple a _) ⟨_, Heap.get?_push_size _ rfl, rfl, rfl⟩ q3)
  | txt y =>
    obtain ⟨t, rfl⟩ := r1
    cases ha : y.cps.all (· < 128)
    · exact wpAny_pyIter_wide ha (pi_one (tk := s1.toks) I1 _ (turn_str _ y t "str_iterator" (.inr rfl)) ⟨_, Heap.get?_push_size _ rfl, rfl, rfl⟩ q3)
    · exact wpAny_pyIter_ascii ha (pi_one (tk := s1.toks) I1 _ (turn_str _ y t "str_ascii_iterator" (.inl rfl)) ⟨_, Heap.get?_push_size _ rfl, rfl, rfl⟩ q3)
def rng1O (ds : List D) : Option (List D) := match ds with
  | [.int j] => if -(2 ^ 62) ≤ j ∧ j < 2 ^ 62 then some (rangeD 0 j) else none
  | _ => none
def rng2O (ds : List D) : Option (List D) := match ds with
  | [.int i, .int j] => if (-(2 ^ 62) ≤ i ∧ i < 2 ^ 62) ∧ -(2 ^ 62) ≤ j ∧ j < 2 ^ 62 then some (rangeD i j) else none
  | _ => none
def overA (o : List D → Option (List D)) (f : M (List D)) : M (List D) := bnd f fun ds => lift (o ds)
theorem i_range1 (hg : Gl X "range") (hm : X.mg "range" = none) (ha : PA X [a] (tL p fl)) (hs : starEach [a] X.env = [(false, eval a X.env)] := by rfl) : PI X tg (.Call (.Name "range" pf) [a] [] pos) (tI p (overA rng1O fl)) := by
  refine ⟨fun pins s σ H R I h => (pi_range1 hg hm ha hs).run pins s σ H R I ?_⟩
  obtain ⟨g, s', r, q⟩ := seqL (K := ⟨X.K, lt⟩) preI h
  refine ⟨g, s', r, Post.mono q fun vs H1 ⟨g1, s1', ds, rs1, rv, q1⟩ => ?_⟩
  obtain ⟨es, hd, q2⟩ := liftP q1
  unfold rng1O at hd
  split at hd
  · split at hd
    · rename_i j hc
      cases hd
      cases rv with
      | cons r1 rr =>
        cases rr
        cases r1
        refine ⟨j, rfl, hc.1, hc.2, ?_⟩
        have e0 : j.toNat = (j - 0).toNat := by rw [Int.sub_zero]
        rw [e0]
        exact q2 _ H1 g1 rs1 (.refl _ _) (rangeItD 0 j)
    · cases hd
  · cases hd
theorem i_range2 (hg : Gl X "range") (hm : X.mg "range" = none) (ha : PA X [a, b] (tL p fl)) (hs : starEach [a, b] X.env = [(false, eval a X.env), (false, eval b X.env)] := by rfl) (hs2 : starEach [b] X.env = [(false, eval b X.env)] := by rfl) : PI X tg (.Call (.Name "range" pf) [a, b] [] pos) (tI p (overA rng2O fl)) := by
  refine ⟨fun pins s σ H R I h => (pi_range2 hg hm ha hs hs2).run pins s σ H R I ?_⟩
  obtain ⟨g, s', r, q⟩ := seqL (K := ⟨X.K, lt⟩) preI h
  refine ⟨g, s', r, Post.mono q fun vs H1 ⟨g1, s1', ds, rs1, rv, q1⟩ => ?_⟩
  obtain ⟨es, hd, q2⟩ := liftP q1
  unfold rng2O at hd
  split at hd
  · split at hd
    · rename_i i j hc
      cases hd
      cases rv with
      | cons r1 rr =>
        cases rr with
        | cons r2 rr =>
          cases rr
          cases r1
          cases r2
          exact ⟨i, j, rfl, ⟨hc.1.1, hc.1.2, hc.2.1, hc.2.2⟩, q2 _ H1 g1 rs1 (.refl _ _) (rangeItD i j)⟩
    · cases hd
  · cases hd
def enumO (ds : List D) : Option (List D) := match ds with
  | [d] => (srcD d).map enumL
  | _ => none
def zipO (ds : List D) : Option (List D) := match ds with
  | [d, e] => (srcD d).bind fun xs => (srcD e).map fun ys => zipL xs ys
  | [d, e, f] => (srcD d).bind fun xs => (srcD e).bind fun ys => (srcD f).map fun zs => zip3L xs ys zs
  | _ => none
theorem i_enum {elts : List Expr} {kk : Nat} {tpos : Pos} (hg : Gl X "enumerate") (hm : X.mg "enumerate" = none) (ha : PA X [a] (tL p fl)) (hs : starEach [a] X.env = [(false, eval a X.env)] := by rfl) :
    PI X (.Tuple elts kk tpos) (.Call (.Name "enumerate" pf) [a] [] pos) (tI p (overA enumO fl)) := by
  refine ⟨fun pins s σ H R I h => ?_⟩
  obtain ⟨g, s', r, q⟩ := seqL (K := ⟨X.K, lt⟩) preI h
  refine Call_ (ld_blt I hg hm boot_enumerate (PyProof.Rows.callWith_type1 (thn (ha.run pos pins s σ H _ I ⟨g, s', r, q⟩) fun us s1 ⟨vs, H1, I1, r1, g1, s1', ds, rs1, rv, q1⟩ => ?_) hs rfl))
  obtain ⟨es, hd, q2⟩ := liftP q1
  unfold enumO at hd
  split at hd
  · rename_i d
    cases hsd : srcD d with
    | none => rw [hsd] at hd; cases hd
    | some xs =>
      rw [hsd] at hd
      cases hd
      cases rv with
      | cons rv1 rr =>
        cases rr
        obtain ⟨k, vs, rfl, hk, rr⟩ := src_of rv1 hsd
        have q3 := q2 _ H1 g1 rs1 (.refl _ _) (k.enD hk rr)
        cases r1 with
        | cons ru ruu =>
          cases ruu
          obtain ⟨t, rfl⟩ := KS.rel ru
          obtain ⟨C, hC, B, hfp, _⟩ := k.draws I1 t (k.up rs1.m.sub hk)
          refine call_enum1 B hC fun h' he hit hkp => wpAny_pyIter_enum he ?_
          have n1 : s1.heap.objs.size + 1 ∉ k.fp := fun z => by have : (s1.heap.objs.size + 1 : Nat) < s1.heap.objs.size := hfp _ z; omega
          have n2 : s1.heap.objs.size ∉ k.fp := fun z => by have : (s1.heap.objs.size : Nat) < s1.heap.objs.size := hfp _ z; omega
          have I2 : Inv X pins σ H1 { s1 with heap := h' } := I1.kept (t' := s1.toks) hkp
          refine ⟨s1.heap.objs.size + 1, [s1.heap.objs.size + 1, s1.heap.objs.size], _, _, H1, rfl, I2, turn_e k t (e := s1.heap.objs.size + 1) (it := s1.heap.objs.size) (Nat.succ_ne_self _) n1 n2, ⟨⟨.none, he⟩, k.first t hit⟩, fun b hb => ?_, q3⟩
          have e' : b = s1.heap.objs.size + 1 ∨ b = s1.heap.objs.size := by simpa using hb
          have hle : s1.heap.objs.size ≤ b := by
            rcases e' with z | z
            · rw [z]; exact Nat.le_add_right _ _
            · rw [z]; exact Nat.le_refl _
          exact I1.fpOk hle (I1.hok.fresh hle)
  · cases hd
theorem i_zip {elts : List Expr} {kk : Nat} {tpos : Pos} (hg : Gl X "zip") (hm : X.mg "zip" = none) (ha : PA X (a :: es) (tL p fl)) (hs : starEach (a :: es) X.env = (false, eval a X.env) :: starEach es X.env := by rfl) (hpl : (backTo pos (starEach es X.env)).any (·.1) = false := by rfl) :
    PI X (.Tuple elts kk tpos) (.Call (.Name "zip" pf) (a :: es) [] pos) (tI p (overA zipO fl)) := by
  refine ⟨fun pins s σ H R I h => ?_⟩
  obtain ⟨g, s', r, q⟩ := seqL (K := ⟨X.K, lt⟩) preI h
  have hlen : ∀ us : List Value, True := fun _ => trivial
  refine Call_ (ld_blt I hg hm PyProof.Rows.boot_zip (PyProof.Rows.callWith_type1 (thn (ha.run pos pins s σ H _ I ⟨g, s', r, q⟩) fun us s1 ⟨vs, H1, I1, r1, g1, s1', ds, rs1, rv, q1⟩ => ?_) hs hpl))
  obtain ⟨es, hd, q2⟩ := liftP q1
  unfold zipO at hd
  split at hd
  · rename_i d e
    cases hsd : srcD d with
    | none => rw [hsd] at hd; cases hd
    | some xs =>
      cases hse : srcD e with
      | none => rw [hsd, hse] at hd; cases hd
      | some ys =>
        rw [hsd, hse] at hd
        cases hd
        cases rv with
        | cons rv1 rr =>
          cases rr with
          | cons rv2 rr =>
            cases rr
            obtain ⟨k, vs, rfl, hk, rk⟩ := src_of rv1 hsd
            obtain ⟨l, us, rfl, hl, rl⟩ := src_of rv2 hse
            have q3 := q2 _ H1 g1 rs1 (.refl _ _) (KS.zipD k l hk rk hl rl)
            cases r1 with
            | cons ru ruu =>
              cases ruu with
              | cons ru2 ruu =>
                cases ruu
                obtain ⟨t, rfl⟩ := KS.rel ru
                obtain ⟨t2, rfl⟩ := KS.rel ru2
                obtain ⟨C, hC, B, hfp, _⟩ := k.draws I1 t (k.up rs1.m.sub hk)
                obtain ⟨C2, hC2, B2, hfp2, _⟩ := l.draws I1 t2 (l.up rs1.m.sub hl)
                refine zip_begins2 B B2 hC hC2 fun h' hz hTI hTO h1 h2 hsz hkp => wpAny_pyIter_zip hz ?_
                have I2 : Inv X pins σ H1 { s1 with heap := h' } := I1.kept (t' := s1.toks) hkp
                have n1 : s1.heap.objs.size ∉ k.fp := fun z => by have : (s1.heap.objs.size : Nat) < s1.heap.objs.size := hfp _ z; omega
                have n2 : s1.heap.objs.size + 1 ∉ l.fp := fun z => by have : (s1.heap.objs.size + 1 : Nat) < s1.heap.objs.size := hfp2 _ z; omega
                refine ⟨s1.heap.objs.size + 4, [s1.heap.objs.size + 4, s1.heap.objs.size + 2, s1.heap.objs.size + 3, s1.heap.objs.size, s1.heap.objs.size + 1], _, _, H1, rfl, I2, turn_z k l t t2 (zip_sep2 hfp hfp2) n1 n2, ⟨hz, hTI, ⟨_, _, hTO⟩, k.first t h1, l.first t2 h2⟩, fun c hcm => ?_, q3⟩
                have e' : c = s1.heap.objs.size + 4 ∨ c = s1.heap.objs.size + 2 ∨ c = s1.heap.objs.size + 3 ∨ c = s1.heap.objs.size ∨ c = s1.heap.objs.size + 1 := by simpa using hcm
                have hle : s1.heap.objs.size ≤ c := by
                  rcases e' with z | z | z | z | z
                  · rw [z]; exact Nat.le_add_right _ _
                  · rw [z]; exact Nat.le_add_right _ _
                  · rw [z]; exact Nat.le_add_right _ _
                  · rw [z]; exact Nat.le_refl _
                  · rw [z]; exact Nat.le_add_right _ _
                exact I1.fpOk hle (I1.hok.fresh hle)
  · rename_i d e f
    cases hsd : srcD d with
    | none => rw [hsd] at hd; cases hd
    | some xs =>
      cases hse : srcD e with
      | none => rw [hsd, hse] at hd; cases hd
      | some ys =>
        cases hsf : srcD f with
        | none => rw [hsd, hse, hsf] at hd; cases hd
        | some zs =>
        rw [hsd, hse, hsf] at hd
        cases hd
        cases rv with
        | cons rv1 rr =>
          cases rr with
          | cons rv2 rr =>
            cases rr with
            | cons rv3 rr =>
            cases rr
            obtain ⟨k, vs, rfl, hk, rk⟩ := src_of rv1 hsd
            obtain ⟨l, us, rfl, hl, rl⟩ := src_of rv2 hse
            obtain ⟨m, ts, rfl, hm, rm⟩ := src_of rv3 hsf
            have q3 := q2 _ H1 g1 rs1 (.refl _ _) (KS.zip3D k l m hk rk hl rl hm rm)
            cases r1 with
            | cons ru ruu =>
              cases ruu with
              | cons ru2 ruu =>
                cases ruu with
                | cons ru3 ruu =>
                cases ruu
                obtain ⟨t, rfl⟩ := KS.rel ru
                obtain ⟨t2, rfl⟩ := KS.rel ru2
                obtain ⟨t3, rfl⟩ := KS.rel ru3
                obtain ⟨C, hC, B, hfp, _⟩ := k.draws I1 t (k.up rs1.m.sub hk)
                obtain ⟨C2, hC2, B2, hfp2, _⟩ := l.draws I1 t2 (l.up rs1.m.sub hl)
                obtain ⟨C3, hC3, B3, hfp3, _⟩ := m.draws I1 t3 (m.up rs1.m.sub hm)
                refine zip_begins3 B B2 B3 hC hC2 hC3 fun h' hz hTI hTO h1 h2 h3 hsz hkp => wpAny_pyIter_zip hz ?_
                have I2 : Inv X pins σ H1 { s1 with heap := h' } := I1.kept (t' := s1.toks) hkp
                have n1 : s1.heap.objs.size ∉ k.fp := fun z => by have : (s1.heap.objs.size : Nat) < s1.heap.objs.size := hfp _ z; omega
                have n2 : s1.heap.objs.size + 1 ∉ l.fp := fun z => by have : (s1.heap.objs.size + 1 : Nat) < s1.heap.objs.size := hfp2 _ z; omega
                have n3 : s1.heap.objs.size + 2 ∉ m.fp := fun z => by have : (s1.heap.objs.size + 2 : Nat) < s1.heap.objs.size := hfp3 _ z; omega
                refine ⟨s1.heap.objs.size + 5, [s1.heap.objs.size + 5, s1.heap.objs.size + 3, s1.heap.objs.size + 4, s1.heap.objs.size, s1.heap.objs.size + 1, s1.heap.objs.size + 2], _, _, H1, rfl, I2, turn_z3 k l m t t2 t3 (zip_sep3 hfp hfp2 hfp3) n1 n2 n3, ⟨hz, hTI, ⟨_, _, _, hTO⟩, k.first t h1, l.first t2 h2, m.first t3 h3⟩, fun c hcm => ?_, q3⟩
                have e' : c = s1.heap.objs.size + 5 ∨ c = s1.heap.objs.size + 3 ∨ c = s1.heap.objs.size + 4 ∨ c = s1.heap.objs.size ∨ c = s1.heap.objs.size + 1 ∨ c = s1.heap.objs.size + 2 := by simpa using hcm
                have hle : s1.heap.objs.size ≤ c := by
                  rcases e' with z | z | z | z | z | z
                  · rw [z]; exact Nat.le_add_right _ _
                  · rw [z]; exact Nat.le_add_right _ _
                  · rw [z]; exact Nat.le_add_right _ _
                  · rw [z]; exact Nat.le_refl _
                  · rw [z]; exact Nat.le_add_right _ _
                  · rw [z]; exact Nat.le_add_right _ _
                exact I1.fpOk hle (I1.hok.fresh hle)
  · cases hd
end
end Mp

set_option Elab.async false
set_option linter.all false
set_option maxRecDepth 100000
set_option maxHeartbeats 4000000
namespace Mp
open PySem PySem.Spec L2
open PyProof.Rows hiding St

/-! ### for -/
def forL (t : Tgt) (b : M Fl) : List D → M Fl
  | [] => ret .nx
  | x :: xs => bnd (t x) fun _ => bnd b fun fl => match fl with
    | .nx => forL t b xs
    | .ct => forL t b xs
    | .bk => ret .nx
    | .ret d => ret (.ret d)
def forS (f : M (List D)) (t : Tgt) (b : M Fl) : M Fl := bnd f (forL t b)
/-- a new tuple that a walk hands out -/
theorem yld_go {K : Kx} {p : Pm K} {σ : L2.St} {g : G} {H H'' : Hp} {s : S} {d : D} {x : V} (r : RS p g σ H s)
    (h : (H'' = H ∧ RV K g.F g.φ d x) ∨ ∃ T vs ds, d = .tup ds ∧ x = .ref T ∧ H T = none ∧ H'' = upd H T (.tup vs) ∧ RVs K g.F g.φ ds vs) :
    ∃ g', RS p g' σ H'' s ∧ Ext g H g' H'' ∧ RV K g'.F g'.φ d x := by
  rcases h with ⟨rfl, h⟩ | ⟨T, vs, ds, rfl, rfl, hT, rfl, h⟩
  · exact ⟨g, r, .refl _ _, h⟩
  · exact ⟨_, r.add hT (.tup vs), r.addE hT _, .tup (.inl (.inl G.add_same)) (RVs.up (r.m.addUp hT _) ⟨[], by simp [G.add]⟩ _ _ h)⟩
section
variable {X : Cx} {lt : Nat → LamI} {p : Pm ⟨X.K, lt⟩} {e a b c tg iter : Expr} {es : List Expr} {pos pf : Pos} {fa fb fc : M D} {fl : M (List D)} {fi : M (List D)} {t : Tgt} {fbody f1 : M Fl} {body : List Stmt} {ba : M Bool}
theorem s_for (hp : PassesOwn (model X.prog X.w) X.A X.env X.xe) (hc : X.calm = true) (hi : PI X tg iter (tI p fi)) (hg : PG X tg (gG p t)) (hb : PSs X body (tS p fbody)) (hs : ∀ x, foldedSetIterable iter X.env x = pure x := by intro _; rfl) :
    PS X (.For tg iter body [] pos) (tS p (forS fi t fbody)) := (ps_for hp hc hi hg hb hs).imp fun D σ H ⟨g, s, r, q⟩ => by
  refine ⟨g, s, r, Post.mono (PstS.bnd (A := AI ⟨X.K, lt⟩) q) fun J H1 ⟨g1, s1, xs, r1, e1, it, q1⟩ => ?_⟩
  refine ⟨fun i m σ H => i ≤ xs.length ∧ m = xs.length - i ∧ ∃ g s, RS p g σ H s ∧ ExtS g1 H1 g H ∧ PstS p (forL t fbody (xs.drop i) s) g H D, ⟨xs.length, Nat.zero_le _, rfl, g1, s1, r1, .refl _ _, by rw [List.drop_zero]; exact q1⟩, ?_⟩
  rintro i m σ2 H2 ⟨hi, rfl, g2, s2, r2, e2, q2⟩
  by_cases hlt : i < xs.length
  · have hd : xs.drop i = xs[i] :: xs.drop (i + 1) := (List.getElem_cons_drop hlt).symm
    rw [hd] at q2
    refine .inr ⟨it.go g2 H2 i e2 r2.m.sub hlt, fun σ' H' => ∃ g s, RS p g σ' H' s ∧ ExtS g1 H1 g H' ∧ PstS p (forL t fbody (xs.drop (i + 1)) s) g H' D, fun σ' H' ⟨g3, s3, r3, e3, q3⟩ => ⟨xs.length - (i + 1), by omega, by omega, rfl, g3, s3, r3, e3, q3⟩, fun x H' y => ?_⟩
    obtain ⟨d, hd', h⟩ := it.yld g2 H2 i x H' e2 r2.m.sub hlt y
    have ed : xs[i] = d := by
      rw [List.getElem?_eq_getElem hlt] at hd'
      exact Option.some.inj hd'
    obtain ⟨g3, r3, e3, rv⟩ := yld_go r2 h
    rw [← ed] at rv
    have q3 := PstS.pre e3.s q2
    unfold forL at q3
    refine ⟨g3, s2, xs[i], r3, rv, (PstU.nx q3).mono fun σ4 H4 ⟨g4, s4, r4, e4, q4⟩ => ?_⟩
    refine ⟨g4, s4, r4, ?_⟩
    have e14 := (e2.trans e3.s).trans e4
    unfold bnd at q4
    cases z : fbody s4 with
    | stuck => rw [z] at q4; exact q4.elim
    | err c fs s5 => rw [z] at q4; exact q4
    | ok fl s5 =>
      rw [z] at q4
      cases fl with
      | nx => exact fun σ5 H5 g5 r5 e5 => ⟨g5, s5, r5, e14.trans e5, PstS.pre e5 q4⟩
      | ct => exact fun σ5 H5 g5 r5 e5 => ⟨g5, s5, r5, e14.trans e5, PstS.pre e5 q4⟩
      | bk => exact q4
      | ret d => exact q4
  · have e0 : i = xs.length := by omega
    subst e0
    rw [List.drop_length] at q2
    exact .inl ⟨it.stop g2 H2 e2 r2.m.sub, q2 σ2 H2 g2 r2 (.refl _ _)⟩
/-! ### while -/
def whRun (c : M Bool) (b : M Fl) : Nat → S → Option (R Fl)
  | 0, _ => none
  | n + 1, s => match c s with
    | .ok true s1 => match b s1 with
      | .ok .nx s2 => whRun c b n s2
      | .ok .ct s2 => whRun c b n s2
      | .ok .bk s2 => some (.ok .nx s2)
      | .ok (.ret d) s2 => some (.ok (.ret d) s2)
      | .err k fs s2 => some (.err k fs s2)
      | .stuck => some .stuck
    | .ok false s1 => some (.ok .nx s1)
    | .err k fs s1 => some (.err k fs s1)
    | .stuck => some .stuck
open Classical in
noncomputable def whS (c : M Bool) (b : M Fl) : M Fl := fun s => if h : ∃ n, (whRun c b n s).isSome = true then (whRun c b h.choose s).getD .stuck else .stuck
theorem whRun_mono {c : M Bool} {b : M Fl} : ∀ {n m : Nat} {s : S} {r : R Fl}, whRun c b n s = some r → n ≤ m → whRun c b m s = some r
  | 0, _, _, _, h, _ => by cases h
  | n + 1, 0, _, _, _, hm => by omega
  | n + 1, m + 1, s, r, h, hm => by
    unfold whRun at h ⊢
    cases z : c s with
    | stuck => rw [z] at h; exact h
    | err k fs s1 => rw [z] at h; exact h
    | ok b1 s1 =>
      rw [z] at h
      cases b1 with
      | false => exact h
      | true =>
        simp only at h ⊢
        cases z2 : b s1 with
        | stuck => rw [z2] at h; exact h
        | err k fs s2 => rw [z2] at h; exact h
        | ok fl s2 =>
          rw [z2] at h
          cases fl with
          | nx => exact whRun_mono (n := n) (m := m) h (by omega)
          | ct => exact whRun_mono (n := n) (m := m) h (by omega)
          | bk => exact h
          | ret d => exact h
theorem whS_of {c : M Bool} {b : M Fl} {n : Nat} {s : S} {r : R Fl} (h : whRun c b n s = some r) : whS c b s = r := by
  unfold whS
  have hx : ∃ n, (whRun c b n s).isSome = true := ⟨n, by rw [h]; rfl⟩
  rw [dif_pos hx]
  obtain ⟨r', hr'⟩ := Option.isSome_iff_exists.mp hx.choose_spec
  rw [hr']
  rcases Nat.le_total n hx.choose with z | z
  · rw [whRun_mono h z] at hr'
    exact (Option.some.inj hr').symm
  · rw [whRun_mono hr' z] at h
    exact Option.some.inj h
theorem whS_ok {c : M Bool} {b : M Fl} {s : S} (h : whS c b s ≠ .stuck) : ∃ n, whRun c b n s = some (whS c b s) := by
  unfold whS at h ⊢
  by_cases hx : ∃ n, (whRun c b n s).isSome = true
  · rw [dif_pos hx] at h ⊢
    obtain ⟨r', hr'⟩ := Option.isSome_iff_exists.mp hx.choose_spec
    exact ⟨hx.choose, by rw [hr']; rfl⟩
  · rw [dif_neg hx] at h
    exact absurd rfl h
/-- a step of the loop -/
theorem whS_false {c : M Bool} {b : M Fl} {s s1 : S} (h : c s = .ok false s1) : whS c b s = .ok .nx s1 := whS_of (n := 1) (by unfold whRun; rw [h])
theorem whS_true {c : M Bool} {b : M Fl} {s s1 s2 : S} {r : R Fl} (h : c s = .ok true s1) (h2 : b s1 = .ok .nx s2) (h3 : whS c b s2 = r) (hr : r ≠ .stuck) : whS c b s = r := by
  obtain ⟨n, hn⟩ := whS_ok (by rw [h3]; exact hr)
  refine whS_of (n := n + 1) ?_
  unfold whRun
  rw [h]
  simp only [h2]
  rw [hn, h3]
theorem s_while (hp : PassesOwn (model X.prog X.w) X.A X.env X.xe) (hcx : PT X c (tB p ba)) (hb : PSs X body (tS p fbody)) : PS X (.While c body [] pos) (tS p (whS ba fbody)) := (ps_while hp hcx hb).imp fun D σ H ⟨g, s, r, q⟩ => by
  have hne : whS ba fbody s ≠ .stuck := fun z => by rw [z] at q; exact q
  obtain ⟨n, hn⟩ := whS_ok hne
  refine ⟨fun m σ H => ∃ g s r0, RS p g σ H s ∧ whRun ba fbody m s = some r0 ∧ PstS p r0 g H D, ⟨n, g, s, _, r, hn, q⟩, ?_⟩
  rintro m σ2 H2 ⟨g2, s2, r0, r2, h2, q2⟩
  cases m with
  | zero => cases h2
  | succ m =>
    unfold whRun at h2
    refine ⟨g2, s2, r2, ?_⟩
    cases z : ba s2 with
    | stuck => rw [z] at h2; cases h2; exact q2.elim
    | err k fs s3 => rw [z] at h2; cases h2; exact fun H' g' dx a b c => q2 σ2 H' g' dx a b.s c
    | ok b1 s3 =>
      rw [z] at h2
      intro v H3 g3 r3 e3 a3
      subst a3
      cases v with
      | false =>
        cases h2
        rw [if_neg Bool.false_ne_true]
        exact q2 σ2 H3 g3 r3 e3.s
      | true =>
        rw [if_pos rfl]
        refine ⟨fun σ' H' => ∃ g s r0, RS p g σ' H' s ∧ whRun ba fbody m s = some r0 ∧ PstS p r0 g H' D, fun σ' H' ⟨g4, s4, r4, a, b, c⟩ => ⟨m, by omega, g4, s4, r4, a, b, c⟩, g3, s3, r3, ?_⟩
        simp only at h2
        have q3 := PstS.pre e3.s q2
        cases z2 : fbody s3 with
        | stuck => rw [z2] at h2; cases h2; exact q3.elim
        | err k fs s4 => rw [z2] at h2; cases h2; exact q3
        | ok fl s4 =>
          rw [z2] at h2
          cases fl with
          | nx => exact fun σ5 H5 g5 r5 e5 => ⟨g5, s4, r0, r5, h2, PstS.pre e5 q3⟩
          | ct => exact fun σ5 H5 g5 r5 e5 => ⟨g5, s4, r0, r5, h2, PstS.pre e5 q3⟩
          | bk => cases h2; exact q3
          | ret d => cases h2; exact q3
/-! ### a, b = x, y -/
def par2 (f : M (List D)) (i j : Nat) : M Fl := bnd f fun ds => match ds with
  | [x, y] => bnd (setv i x) fun _ => bnd (setv j y) fun _ => ret .nx
  | _ => stk
def par3 (f : M (List D)) (i j k : Nat) : M Fl := bnd f fun ds => match ds with
  | [x, y, z] => bnd (setv i x) fun _ => bnd (setv j y) fun _ => bnd (setv k z) fun _ => ret .nx
  | _ => stk
theorem setv_use {K : Kx} {p : Pm K} {g : G} {σ : L2.St} {H : Hp} {s : S} {i : Nat} {x : D} {v : V} {k : Unit → M Fl} {D : Ends} (r : RS p g σ H s) (rv : RV K g.F g.φ x v) (q : PstS p (bnd (setv i x) k s) g H D) :
    ∃ g' s', RS p g' (σ.set i (some v)) H s' ∧ Ext g H g' H ∧ PstS p (k () s') g' H D := by
  unfold bnd setv at q
  by_cases hl : i < s.env.length
  · rw [if_pos hl] at q
    exact ⟨_, _, r.setv hl rv, g.dropE H i, PstS.pre (g.dropE H i).s q⟩
  · rw [if_neg hl] at q
    exact q.elim
theorem s_par2 {i j : Nat} {x y : Str} {px py pt : Pos} {kt k2 pt2} (hc : X.calm = true) (hN : X.N.Nodup) (hi : X.N[i]? = some x) (hj : X.N[j]? = some y) (hij : i ≠ j)
    (hx : X.env.scope.names.lookup x = some .local) (hy : X.env.scope.names.lookup y = some .local) (ha : PA X [a, b] (tL p fl))
    (hw : swappedStores [.Tuple [.Name x px, .Name y py] kt pt] (.Tuple [a, b] k2 pt2) X.env = pure (some [x, y]))
    (hs : swapsWithSole [.Tuple [.Name x px, .Name y py] kt pt] (.Tuple [a, b] k2 pt2) pos.line X.env = pure false := by rfl) :
    PS X (.Assign [.Tuple [.Name x px, .Name y py] kt pt] (.Tuple [a, b] k2 pt2) pos) (tS p (par2 fl i j)) := (ps_par hc hN hi hj hij hx hy ha hw hs).imp fun D σ H ⟨g, s, r, q⟩ => by
  refine ⟨g, s, r, Post.mono (PstS.bnd (A := AL ⟨X.K, lt⟩) q) fun vs H1 ⟨g1, s1, ds, r1, e1, rv, q1⟩ => ?_⟩
  split at q1
  · cases rv with
    | cons rv1 rr => cases rr with
      | cons rv2 rr =>
        cases rr
        obtain ⟨g2, s2, r2, e2, q2⟩ := setv_use r1 rv1 q1
        obtain ⟨g3, s3, r3, e3, q3⟩ := setv_use r2 (e2.rv rv2) q2
        exact ⟨_, _, rfl, q3 _ _ _ r3 (.refl _ _)⟩
  · exact q1.elim
theorem s_par3 {i j l : Nat} {x y z : Str} {px py pz pt : Pos} {kt k2 pt2} (hc : X.calm = true) (hN : X.N.Nodup) (hi : X.N[i]? = some x) (hj : X.N[j]? = some y) (hl : X.N[l]? = some z) (hij : i ≠ j) (hil : i ≠ l) (hjl : j ≠ l)
    (hx : X.env.scope.names.lookup x = some .local) (hy : X.env.scope.names.lookup y = some .local) (hz : X.env.scope.names.lookup z = some .local) (ha : PA X [a, b, c] (tL p fl))
    (hw : swappedStores [.Tuple [.Name x px, .Name y py, .Name z pz] kt pt] (.Tuple [a, b, c] k2 pt2) X.env = pure (some [x, y, z]))
    (hs : swapsWithSole [.Tuple [.Name x px, .Name y py, .Name z pz] kt pt] (.Tuple [a, b, c] k2 pt2) pos.line X.env = pure false := by rfl) :
    PS X (.Assign [.Tuple [.Name x px, .Name y py, .Name z pz] kt pt] (.Tuple [a, b, c] k2 pt2) pos) (tS p (par3 fl i j l)) := (ps_par3 hc hN hi hj hl hij hil hjl hx hy hz ha hw hs).imp fun D σ H ⟨g, s, r, q⟩ => by
  refine ⟨g, s, r, Post.mono (PstS.bnd (A := AL ⟨X.K, lt⟩) q) fun vs H1 ⟨g1, s1, ds, r1, e1, rv, q1⟩ => ?_⟩
  split at q1
  · cases rv with
    | cons rv1 rr => cases rr with
      | cons rv2 rr => cases rr with
        | cons rv3 rr =>
          cases rr
          obtain ⟨g2, s2, r2, e2, q2⟩ := setv_use r1 rv1 q1
          obtain ⟨g3, s3, r3, e3, q3⟩ := setv_use r2 (e2.rv rv2) q2
          obtain ⟨g4, s4, r4, e4, q4⟩ := setv_use r3 (e3.rv (e2.rv rv3)) q3
          exact ⟨_, _, _, rfl, q4 _ _ _ r4 (.refl _ _)⟩
  · exact q1.elim
end
end Mp

set_option Elab.async false
set_option linter.all false
set_option maxRecDepth 100000
set_option maxHeartbeats 4000000
namespace Mp
open PySem PySem.Spec L2
open PyProof.Rows hiding St

/-! ### comprehensions: the block's own slots -/
def wipeE (e : List Sl) : List Nat → List Sl
  | [] => e
  | v :: vs => (wipeE e vs).set v .un
def keepVal : Option Sl → Sl
  | some (.val d) => .val d
  | _ => .un
def restE (e0 e : List Sl) : List Nat → List Sl
  | [] => e
  | v :: vs => (restE e0 e vs).set v (keepVal e0[v]?)
def G.dropL (g : G) : List Nat → G
  | [] => g
  | v :: vs => (g.dropL vs).drop v
theorem wipeE_length (e : List Sl) : ∀ vs, (wipeE e vs).length = e.length
  | [] => rfl
  | v :: vs => by unfold wipeE; rw [List.length_set, wipeE_length e vs]
theorem restE_length (e0 e : List Sl) : ∀ vs, (restE e0 e vs).length = e.length
  | [] => rfl
  | v :: vs => by unfold restE; rw [List.length_set, restE_length e0 e vs]
theorem wipe_off {σ : L2.St} {i : Nat} : ∀ {vs : List Nat}, i ∉ vs → (wipe σ vs)[i]? = σ[i]?
  | [], _ => rfl
  | v :: vs, h => by
    unfold wipe
    rw [List.getElem?_set_ne (fun e => h (by simp [e]))]
    exact wipe_off fun z => h (List.mem_cons_of_mem _ z)
theorem restE_off {e0 e : List Sl} {i : Nat} : ∀ {vs : List Nat}, i ∉ vs → (restE e0 e vs)[i]? = e[i]?
  | [], _ => rfl
  | v :: vs, h => by
    unfold restE
    rw [List.getElem?_set_ne (fun e => h (by simp [e]))]
    exact restE_off fun z => h (List.mem_cons_of_mem _ z)
theorem restE_on {e0 e : List Sl} {i : Nat} {sl : Sl} : ∀ {vs : List Nat}, i ∈ vs → (restE e0 e vs)[i]? = some sl → sl = keepVal e0[i]?
  | v :: vs, h, q => by
    unfold restE at q
    by_cases e : v = i
    · subst e
      by_cases hl : v < (restE e0 e vs).length
      · rw [List.getElem?_set_self hl] at q
        exact (Option.some.inj q).symm
      · rw [List.getElem?_eq_none (by rw [List.length_set]; omega)] at q
        cases q
    · rw [List.getElem?_set_ne e] at q
      refine restE_on ?_ q
      rcases List.mem_cons.mp h with z | z
      · exact absurd z.symm e
      · exact z
theorem dropL_F (g : G) : ∀ vs, (g.dropL vs).F = g.F ∧ (g.dropL vs).φ = g.φ
  | [] => ⟨rfl, rfl⟩
  | v :: vs => dropL_F g vs
theorem dropL_om {g : G} {j : Nat} {b : Addr} : ∀ {vs : List Nat}, (g.dropL vs).ω j = some b → j ∉ vs ∧ g.ω j = some b
  | [], h => ⟨by simp, h⟩
  | v :: vs, h => by
    obtain ⟨h1, h2⟩ := drop_om (g := g.dropL vs) h
    obtain ⟨h3, h4⟩ := dropL_om (vs := vs) h2
    exact ⟨fun z => (List.mem_cons.mp z).elim h1 h3, h4⟩
section
variable {K : Kx} {p : Pm K} {σ : L2.St} {g g' : G} {H H' : Hp} {s : S}
theorem RS.wipe (r : RS p g σ H s) : ∀ vs : List Nat, (∀ v ∈ vs, v < s.env.length) → RS p (g.dropL vs) (wipe σ vs) H { s with env := wipeE s.env vs }
  | [], _ => r
  | v :: vs, h => by
    have q := RS.wipe r vs fun w hw => h w (List.mem_cons_of_mem _ hw)
    exact q.unset (i := v) (by show v < (wipeE s.env vs).length; rw [wipeE_length]; exact h v List.mem_cons_self) (o := none)
theorem dropLE (g : G) (H : Hp) : ∀ vs : List Nat, Ext g H (g.dropL vs) H
  | [] => .refl _ _
  | v :: vs => (dropLE g H vs).trans (G.dropE _ H v)
/-- back in the frame -/
theorem RS.rest {s0 : S} {g0 : G} {H0 : Hp} {vs : List Nat} (r0 : RS p g0 σ H0 s0) (e : Ext g0 H0 g H) (m : RM K g H s.ms) (f : RF K p.xc g (L2.wipe σ vs) H s.env) (t : LamX.Tabs p.T H) (hω : ∀ i a, g.ω i = some a → i ∉ vs) :
    RS p g σ H { s with env := restE s0.env s.env vs } := by
  refine r0.go (s' := { s with env := restE s0.env s.env vs }) e.s m ⟨?_, fun i d q => ?_, fun i ds q => ?_, fun i c fs q => ?_, fun i a q => ?_, f.inj⟩ t
  · show (restE s0.env s.env vs).length = _
    rw [restE_length, f.len, wipe_length]
  · by_cases hi : i ∈ vs
    · have z := restE_on hi q
      cases z0 : s0.env[i]? with
      | none => rw [z0] at z; cases z
      | some sl =>
        rw [z0] at z
        cases sl with
        | val d' =>
          cases z
          obtain ⟨v, h1, h2⟩ := r0.f.env i d z0
          exact ⟨v, h1, e.rv h2⟩
        | _ => cases z
    · rw [restE_off hi] at q
      obtain ⟨v, h1, h2⟩ := f.env i d q
      rw [wipe_off hi] at h1
      exact ⟨v, h1, h2⟩
  · by_cases hi : i ∈ vs
    · have z := restE_on hi q
      cases z0 : s0.env[i]? with
      | none => rw [z0] at z; cases z
      | some sl => rw [z0] at z; cases sl <;> cases z
    · rw [restE_off hi] at q
      obtain ⟨a, ws, h1, h2, h3⟩ := f.own i ds q
      rw [wipe_off hi] at h2
      exact ⟨a, ws, h1, h2, h3⟩
  · by_cases hi : i ∈ vs
    · have z := restE_on hi q
      cases z0 : s0.env[i]? with
      | none => rw [z0] at z; cases z
      | some sl => rw [z0] at z; cases sl <;> cases z
    · rw [restE_off hi] at q
      obtain ⟨a, dx, h1, h2, h3⟩ := f.exc i c fs q
      rw [wipe_off hi] at h2
      exact ⟨a, dx, h1, h2, h3⟩
  · obtain ⟨ds, h⟩ := f.is i a q
    exact ⟨ds, by rw [restE_off (hω i a q)]; exact h⟩
/-- a list that the ghost does not know is written -/
theorem RF.offw {xc : Option (Addr × Value × Option Addr)} {env : List Sl} (r : RF K xc g σ H env) {a : Addr} {vs : List V} {o : HO} (h : H a = none ∨ H a = some (.lst vs)) (h1 : ∀ i, g.ω i ≠ some a) : RF K xc g σ (upd H a o) env where
  len := r.len
  env := r.env
  own := fun j ds q => by
    obtain ⟨b, ws, q1, q2, q3, q4, q5, q6⟩ := r.own j ds q
    exact ⟨b, ws, q1, q2, by rw [upd_ne (fun z => h1 j (by rw [← z]; exact q1))]; exact q3, q4, q5, q6⟩
  exc := fun j c fs q => by
    obtain ⟨b, dx, q1, q2, q3⟩ := r.exc j c fs q
    refine ⟨b, dx, q1, q2, ?_⟩
    cases dx with
    | none => exact q3
    | some d =>
      obtain ⟨ws, z1, z2, z3, z4⟩ := q3
      refine ⟨ws, ?_, z2, z3, z4⟩
      have ne : d ≠ a := fun z => by
        rw [z] at z1
        rcases h with h | h
        · rw [h] at z1; cases z1
        · rw [h] at z1; cases z1
      rw [upd_ne ne]
      exact z1
  is := r.is
  inj := r.inj
theorem RM.offw {ms : List (List D)} (m : RM K g H ms) {a : Addr} {o : HO} (h5 : g.F a = none) (h6 : a ∉ g.φ) : RM K g (upd H a o) ms where
  sub := fun b u q => by
    have e : b ≠ a := fun e => by rw [e, h5] at q; cases q
    rw [upd_ne e]
    exact m.sub b u q
  mlen := m.mlen
  mem := fun n b ds q1 q2 => by
    obtain ⟨ws, z1, z2, z3⟩ := m.mem n b ds q1 q2
    have ne : b ≠ a := fun z => h6 (by rw [← z]; exact List.mem_of_getElem? q1)
    exact ⟨ws, by rw [upd_ne ne]; exact z1, z2, z3⟩
  nod := m.nod
  nt := m.nt
theorem Ext.offw {g0 : G} {H0 : Hp} (e : Ext g0 H0 g H) {a : Addr} {us : List V} {o : HO} (hn : H0 a = none) (hl : H a = none ∨ H a = some (.lst us)) : Ext g0 H0 g (upd H a o) where
  fr := e.fr
  ph := e.ph
  new := e.new
  fnew := fun b u z => (e.fnew b u z).imp (fun z => z) fun z => z.imp (fun z => z) fun z => z.imp (fun z => z) fun ⟨w, z1, z2, z3, z4⟩ => ⟨w, z1, (by
    have ne : b ≠ a := fun y => by
      rw [y] at z2
      rcases hl with hl | hl
      · rw [hl] at z2; cases z2
      · rw [hl] at z2; exact lst_ne_co z2
    rw [upd_ne ne]
    exact z2), z3, z4⟩
  nom := e.nom
  there := fun b u h => by
    by_cases q : b = a
    · subst q; exact ⟨o, upd_same⟩
    · rw [upd_ne q]; exact e.there b u h
  keep := fun b u h n t => by
    have ne : b ≠ a := fun z => by rw [z, hn] at h; cases h
    rw [upd_ne ne]
    exact e.keep b u h n t
theorem tabs_off {T : List (Addr × Str)} {H : Hp} {a : Addr} {vs : List V} {u : HO} (t : LamX.Tabs T H) (h : H a = none ∨ H a = some (.lst vs)) : LamX.Tabs T (upd H a u) := tabs_upd t fun o q => by
  rcases h with h | h
  · rw [h] at q; cases q
  · rw [h] at q
    cases q
    exact ⟨fun _ z => (nomatch z), fun _ z => (nomatch z)⟩
end
/-- the setting within a block: nothing is to be raised there -/
def Pm.blk {K : Kx} (p : Pm K) : Pm K := { p with W := fun _ _ _ _ => False }
theorem RS.toBlk {K : Kx} {p : Pm K} {g : G} {σ : L2.St} {H : Hp} {s : S} (r : RS p g σ H s) : RS p.blk g σ H s := ⟨r.m, r.f, r.tabs, r.bg⟩
theorem RS.ofBlk {K : Kx} {p : Pm K} {g : G} {σ : L2.St} {H : Hp} {s : S} (r : RS p.blk g σ H s) : RS p g σ H s := ⟨r.m, r.f, r.tabs, r.bg⟩
/-! ### targets in a block -/
def PstC {K : Kx} (p : Pm K) (vs : List Nat) (σ : L2.St) (r : R Unit) (g : G) (H : Hp) (Q : L2.St → Hp → Prop) : Prop := match r with
  | .ok _ s' => ∀ σ' H' g', RS p g' σ' H' s' → Ext g H g' H' → wipe σ' vs = wipe σ vs → Q σ' H'
  | _ => False
def cG {K : Kx} (p : Pm K) (vs : List Nat) (t : Tgt) : TG := fun v σ H Q => ∃ g s d, RS p g σ H s ∧ RV K g.F g.φ d v ∧ PstC p vs σ (t d s) g H Q
def cGs {K : Kx} (p : Pm K) (vs : List Nat) (t : List D → M Unit) : TGs := fun us σ H Q => ∃ g s ds, RS p g σ H s ∧ RVs K g.F g.φ ds us ∧ PstC p vs σ (t ds s) g H Q
theorem wipe_set {σ : L2.St} {i : Nat} {o : Option V} : ∀ {vs : List Nat}, i ∈ vs → wipe (σ.set i o) vs = wipe σ vs
  | v :: vs, h => by
    unfold wipe
    by_cases e : v = i
    · subst e
      by_cases hv : v ∈ vs
      · rw [wipe_set hv]
      · have h2 : ∀ {us : List Nat}, v ∉ us → wipe (σ.set v o) us = (wipe σ us).set v o := fun {us} => by
          induction us with
          | nil => intro _; rfl
          | cons u us ih =>
            intro hu
            unfold wipe
            rw [ih fun z => hu (List.mem_cons_of_mem _ z), List.set_comm _ _ (fun e => hu (by simp [e]))]
        rw [h2 hv, List.set_set]
    · have : i ∈ vs := by
        rcases List.mem_cons.mp h with z | z
        · exact absurd z.symm e
        · exact z
      rw [wipe_set this]
theorem wipe_sub {σ : L2.St} {vs : List Nat} : ∀ {us : List Nat}, (∀ u ∈ us, u ∈ vs) → wipe (wipe σ us) vs = wipe σ vs
  | [], _ => rfl
  | u :: us, h => by
    show wipe ((wipe σ us).set u none) vs = _
    rw [wipe_set (h u List.mem_cons_self)]
    exact wipe_sub fun w hw => h w (List.mem_cons_of_mem _ hw)
theorem wipe_wipe {σ : L2.St} {vs : List Nat} : wipe (wipe σ vs) vs = wipe σ vs := wipe_sub fun _ h => h
section
variable {X : Cx} {lt : Nat → LamI} {p : Pm ⟨X.K, lt⟩} {e a b c tg iter elt : Expr} {es : List Expr} {pos pf : Pos} {fa fb fc fe : M D} {fl fi : M (List D)} {t : Tgt} {ba : M Bool} {vs : List Nat}
theorem PstC.bnd {f : M Unit} {k : Unit → M Unit} {σ : L2.St} {g : G} {H : Hp} {s : S} {Q : L2.St → Hp → Prop} (q : PstC p vs σ (Mp.bnd f k s) g H Q) :
    PstC p vs σ (f s) g H fun σ' H' => ∃ g' s', RS p g' σ' H' s' ∧ Ext g H g' H' ∧ PstC p vs σ' (k () s') g' H' Q := by
  unfold Mp.bnd at q
  cases z : f s with
  | stuck => rw [z] at q; exact q
  | err c fs s' => rw [z] at q; exact q
  | ok x s' =>
    rw [z] at q
    refine fun σ' H' g' r e w => ⟨g', s', r, e, ?_⟩
    have q : PstC p vs σ (k () s') g H Q := q
    cases z2 : k () s' with
    | stuck => rw [z2] at q; exact q
    | err c fs s' => rw [z2] at q; exact q
    | ok x s'' =>
      rw [z2] at q
      exact fun σ2 H2 g2 r2 e2 w2 => q σ2 H2 g2 r2 (e.trans e2) (w2.trans w)
theorem PstC.mono {σ : L2.St} {r : R Unit} {g : G} {H : Hp} {Q Q' : L2.St → Hp → Prop} (h : PstC p vs σ r g H Q) (w : ∀ σ' H', Q σ' H' → Q' σ' H') : PstC p vs σ r g H Q' := by
  cases r with
  | ok x s' => exact fun σ' H' g' a b c => w _ _ (h σ' H' g' a b c)
  | err c fs s' => exact h
  | stuck => exact h
theorem c_name {i : Nat} {x : Str} (hv : i ∈ vs) (hN : X.N.Nodup) (hi : X.N[i]? = some x) (hx : Loc X.env.scope x) (hf : X.fn x = true ∨ X.env.scope.names.lookup x = some .local := by first | exact .inl rfl | exact .inr rfl | assumption) : PG X (.Name x pos) (cG p vs (setv i)) :=
  (pg_name hN hi hx hf).imp fun v σ H Q ⟨g, s, d, r, rv, q⟩ => by
    unfold setv at q
    by_cases hl : i < s.env.length
    · rw [if_pos hl] at q
      exact q _ H _ (r.setv hl rv) (g.dropE H i) (wipe_set hv)
    · rw [if_neg hl] at q
      exact q.elim
theorem cs_nil : PGs X [] (cGs p vs tgtN) := pgs_nil.imp fun us σ H Q ⟨g, s, ds, r, rv, q⟩ => by
  cases rv with
  | nil => exact ⟨rfl, q σ H g r (.refl _ _) rfl⟩
  | cons _ _ => exact q.elim
theorem cs_cons {t : Tgt} {u : List D → M Unit} (h1 : PG X e (cG p vs t)) (h2 : PGs X es (cGs p vs u)) (hs : (assignEach (e :: es) X.env).map (·.2) = assign e X.env :: (assignEach es X.env).map (·.2) := by rfl) : PGs X (e :: es) (cGs p vs (tgtC t u)) := (pgs_cons h1 h2 hs).imp fun us σ H Q ⟨g, s, ds, r, rv, q⟩ => by
  cases rv with
  | nil => exact q.elim
  | @cons d v ds us r1 r2 => exact ⟨v, us, rfl, g, s, d, r, r1, (PstC.bnd q).mono fun σ' H' ⟨g', s', r', e', q'⟩ => ⟨g', s', ds, r', e'.rvs r2, q'⟩⟩
theorem c_tup {k n : Nat} {u : List D → M Unit} (hc : X.calm = true) (h : PGs X es (cGs p vs u)) (hn : (assignEach es X.env).length = n := by rfl) (hst : (assignEach es X.env).findIdx? (·.1) = none := by rfl) : PG X (.Tuple es k pos) (cG p vs (tgtT n u)) :=
  (pg_tup hc h hn hst).imp fun v σ H Q ⟨g, s, d, r, rv, q⟩ => by
    unfold tgtT at q
    split at q
    · rename_i xs
      by_cases hl : xs.length = n
      · rw [if_pos hl] at q
        cases rv with
        | @tup a vs _ h1 h2 => exact ⟨a, vs, rfl, SqT.up r.m.sub h1, by rw [← h2.length]; exact hl, g, s, xs, r, h2, q⟩
      · rw [if_neg hl] at q
        exact q.elim
    · exact q.elim
/-- one turn: what it adds -/
def lcT (t : Tgt) (c : M Bool) (f : M D) (x : D) : M (Option D) := bnd (t x) fun _ => bnd c fun k => if k then bnd f (fun y => ret (some y)) else ret none
def lcL (vs : List Nat) (t : Tgt) (c : M Bool) (f : M D) : List D → M (List D)
  | [] => ret []
  | x :: xs => fun s => match lcT t c f x s with
    | .ok o s1 => match lcL vs t c f xs { s1 with env := wipeE s1.env vs } with
      | .ok ys s2 => .ok (o.toList ++ ys) s2
      | _ => .stuck
    | _ => .stuck
def lcM (vs : List Nat) (src : M (List D)) (t : Tgt) (c : M Bool) (f : M D) : M (List D) := bnd src fun xs s =>
  if xs.length ≤ 100000 ∧ ∀ v ∈ vs, v < s.env.length then
    match lcL vs t c f xs { s with env := wipeE s.env vs } with
    | .ok ys s' => .ok ys { s' with env := restE s.env s'.env vs }
    | _ => .stuck
  else .stuck
def yesM : M Bool := ret true
theorem ts_nil : PTs X [] (tB p yesM) := ⟨fun pins s σ H Q I ⟨g, s', r, q⟩ => pts_nil.run pins s σ H Q I (q true H g r (.refl _ _) rfl)⟩
theorem ts_one (h : PT X c (tB p ba)) : PTs X [c] (tB p ba) := pts_one h
/-- the turns, read -/
theorem lc_use {J : It} {xs : List D} {σ : L2.St} {H1 : Hp} {g1 : G} {s1 : S} {Q : VK} (r1 : RS p g1 σ H1 s1) (it : ItD ⟨X.K, lt⟩ J g1 H1 xs) (hsz : xs.length ≤ 100000) (hvs : ∀ v ∈ vs, v < s1.env.length) {ys : List D} {s2 : S}
    (hl : lcL vs t ba fe xs { s1 with env := wipeE s1.env vs } = .ok ys s2)
    (hq : ∀ v H' g', RS p g' σ H' { s2 with env := restE s1.env s2.env vs } → Ext g1 H1 g' H' → AF ⟨X.K, lt⟩ ys v g1 H1 g' H' → Q v H') : ∀ Dd, H1 Dd = none → ∃ W : Nat → Nat → Hp → Prop, (∃ m, W 0 m (upd H1 Dd (.lst []))) ∧ ∀ i m H, W i m H →
  (J.stop i H ∧ Q (.ref Dd) H) ∨ (J.go i H ∧ ∃ Nx : Hp → Prop, (∀ H', Nx H' → ∃ m', m' < m ∧ W (i + 1) m' H') ∧ ∀ x H', J.yld i H x H' → cG p.blk vs t x (wipe σ vs) H' fun σ2 H2 => wipe σ2 vs = wipe σ vs ∧ tB p.blk ba σ2 H2 fun b H3 =>
    if b = true then tD p.blk fe σ2 H3 fun y H4 => ∃ acc, H4 Dd = some (.lst acc) ∧ acc.length < sizeLine ∧ Nx (upd H4 Dd (.lst (acc ++ [y]))) else Nx H3) := by
  intro Dd hD
  have hDF : g1.F Dd = none := by
    cases z : g1.F Dd with
    | none => rfl
    | some o =>
      have := r1.m.sub Dd o z
      rw [hD] at this
      cases this
  have hDφ : Dd ∉ g1.φ := fun z => by
    obtain ⟨n, hn⟩ := List.mem_iff_getElem?.mp z
    have hlt : n < s1.ms.length := by
      rw [r1.m.mlen]
      exact (List.getElem?_eq_some_iff.mp hn).1
    obtain ⟨ws, z1, _⟩ := r1.m.mem n Dd _ hn (List.getElem?_eq_getElem hlt)
    rw [hD] at z1
    cases z1
  have hDω : ∀ j, g1.ω j ≠ some Dd := fun j z => by
    obtain ⟨ds, hd⟩ := r1.f.is j Dd z
    obtain ⟨a, ws, q1, q2, q3, _⟩ := r1.f.own j ds hd
    rw [q1] at z
    cases z
    rw [hD] at q3
    cases q3
  -- the invariant
  obtain ⟨W, hW⟩ : ∃ W : Nat → Nat → Hp → Prop, W = fun i m H => i ≤ xs.length ∧ m = xs.length - i ∧ ∃ (g : G) (s : S) (acc : List V) (zs ws : List D), RS p.blk g (wipe σ vs) H s ∧ Ext g1 H1 g H ∧ H Dd = some (.lst acc) ∧ RVs ⟨X.K, lt⟩ g.F g.φ zs acc ∧ g.F Dd = none ∧ Dd ∉ g.φ ∧ (∀ j, g.ω j ≠ some Dd) ∧
      (∀ i a, g.ω i = some a → i ∉ vs) ∧ acc.length ≤ i ∧ lcL vs t ba fe (xs.drop i) s = .ok ws s2 ∧ ys = zs ++ ws := ⟨_, rfl⟩
  -- from a state ahead of the next turn to the invariant
  have mk : ∀ (i : Nat) (g : G) (σ' : L2.St) (H : Hp) (s : S) (acc : List V) (zs ws : List D), i ≤ xs.length → RS p.blk g σ' H s → wipe σ' vs = wipe σ vs → (∀ v ∈ vs, v < s.env.length) → Ext g1 H1 g H → H Dd = some (.lst acc) → RVs ⟨X.K, lt⟩ g.F g.φ zs acc → g.F Dd = none → Dd ∉ g.φ → (∀ j, g.ω j ≠ some Dd) → acc.length ≤ i →
      lcL vs t ba fe (xs.drop i) { s with env := wipeE s.env vs } = .ok ws s2 → ys = zs ++ ws → W i (xs.length - i) H := by
    intro i g σ' H s acc zs ws hi r hw hv e hH rv hF hφ hω ha hl2 hy
    rw [hW]
    refine ⟨hi, rfl, g.dropL vs, _, acc, zs, ws, by rw [← hw]; exact r.wipe vs hv, e.trans (dropLE g H vs), hH, by rw [(dropL_F g vs).1, (dropL_F g vs).2]; exact rv, by rw [(dropL_F g vs).1]; exact hF, by rw [(dropL_F g vs).2]; exact hφ, fun j z => hω j (dropL_om z).2, fun j a z => (dropL_om z).1, ha, hl2, hy⟩
  have put : ∀ {g : G} {σ' : L2.St} {H : Hp} {s : S} (acc : List V) {vs' : List V}, RS p.blk g σ' H s → Ext g1 H1 g H → (H Dd = none ∨ H Dd = some (.lst vs')) → g.F Dd = none → Dd ∉ g.φ → (∀ j, g.ω j ≠ some Dd) → RS p.blk g σ' (upd H Dd (.lst acc)) s ∧ Ext g1 H1 g (upd H Dd (.lst acc)) := fun {g σ' H s} acc {vs'} r e h1 h2 h3 h4 => by
    have e' := e.offw (o := .lst acc) hD h1
    have m := r.m.offw (o := .lst acc) h2 h3
    exact ⟨⟨m, r.f.offw h1 h4, tabs_off r.tabs h1, p.B.up r1.bg e'.s m⟩, e'⟩
  refine ⟨W, ⟨xs.length - 0, ?_⟩, ?_⟩
  · obtain ⟨ra, ea⟩ := put (vs' := []) [] r1.toBlk (.refl _ _) (.inl hD) hDF hDφ hDω
    exact mk 0 g1 σ _ s1 [] [] ys (Nat.zero_le _) ra rfl hvs ea upd_same .nil hDF hDφ hDω (Nat.le_refl _) (by rw [List.drop_zero]; exact hl) rfl
  · intro i m H hw
    rw [hW] at hw
    obtain ⟨hi, rfl, g, s, acc, zs, ws, r, e, hH, rv, hF, hφ, hω, hωv, ha, hl2, hy⟩ := hw
    by_cases hlt : i < xs.length
    · have hd : xs.drop i = xs[i] :: xs.drop (i + 1) := (List.getElem_cons_drop hlt).symm
      rw [hd] at hl2
      unfold lcL at hl2
      cases z : lcT t ba fe xs[i] s with
      | stuck => rw [z] at hl2; cases hl2
      | err c fs s' => rw [z] at hl2; cases hl2
      | ok o s3 =>
        rw [z] at hl2
        simp only at hl2
        cases z2 : lcL vs t ba fe (xs.drop (i + 1)) { s3 with env := wipeE s3.env vs } with
        | stuck => rw [z2] at hl2; cases hl2
        | err c fs s' => rw [z2] at hl2; cases hl2
        | ok us s4 =>
          rw [z2] at hl2
          cases hl2
          refine .inr ⟨it.go g H i e.s r.m.sub hlt, W (i + 1) (xs.length - (i + 1)), fun H' h => ⟨_, by omega, h⟩, fun x H' y => ?_⟩
          obtain ⟨d, hd', h⟩ := it.yld g H i x H' e.s r.m.sub hlt y
          have ed : xs[i] = d := by
            rw [List.getElem?_eq_getElem hlt] at hd'
            exact Option.some.inj hd'
          obtain ⟨g3, r3, e3, rv3⟩ := yld_go r h
          rw [← ed] at rv3
          -- what stays true of Dd
          have keepD : ∀ {g' : G} {H'' : Hp}, Ext g H g' H'' → H'' Dd = some (.lst acc) ∧ RVs ⟨X.K, lt⟩ g'.F g'.φ zs acc ∧ g'.F Dd = none ∧ Dd ∉ g'.φ ∧ (∀ j, g'.ω j ≠ some Dd) := fun {g' H''} e' => by
            refine ⟨e'.keep _ _ hH hφ (fun _ z => by cases z), e'.rvs rv, ?_, fun z => ?_, fun j z => ?_⟩
            · cases q : g'.F Dd with
              | none => rfl
              | some o =>
                rcases e'.fnew _ _ q with q | q | ⟨j, q⟩ | ⟨_, _, q, _⟩
                · rw [hF] at q; cases q
                · rw [hH] at q; cases q
                · exact absurd q (hω j)
                · rw [e'.keep _ _ hH hφ (fun _ z => by cases z)] at q
                  exact (lst_ne_co q).elim
            · rcases e'.new _ z with q | q
              · exact hφ q
              · rw [hH] at q; cases q
            · rcases e'.nom _ _ z with ⟨k, q⟩ | q
              · exact hω k q
              · rw [hH] at q; cases q
          unfold lcT Mp.bnd at z
          refine ⟨g3, s, xs[i], r3, rv3, ?_⟩
          cases zt : t xs[i] s with
          | stuck => rw [zt] at z; cases z
          | err c fs s' => rw [zt] at z; cases z
          | ok _ s5 =>
            rw [zt] at z
            simp only at z
            intro σ5 H5 g5 r5 e5 w5
            refine ⟨w5.trans (by rw [wipe_wipe]), g5, s5, r5, ?_⟩
            cases zc : ba s5 with
            | stuck => rw [zc] at z; cases z
            | err c fs s' => rw [zc] at z; cases z
            | ok k s6 =>
              rw [zc] at z
              simp only at z
              intro v6 H6 g6 r6 e6 a6
              subst a6
              have e36 : Ext g H g6 H6 := (e3.trans e5).trans e6
              have lenOf : ∀ {g' : G} {σ' : L2.St} {H' : Hp} {s' : S}, RS p.blk g' σ' H' s' → wipe σ' vs = wipe σ vs → ∀ v ∈ vs, v < s'.env.length := fun {g' σ' H' s'} r' w v hv => by
                have h1 := r'.f.len
                have h2 : σ'.length = σ.length := by rw [← wipe_length σ' vs, w, wipe_length]
                have h3 := r1.f.len
                have := hvs v hv
                omega
              have w5' : wipe σ5 vs = wipe σ vs := w5.trans (by rw [wipe_wipe])
              cases v6 with
              | false =>
                rw [if_neg Bool.false_ne_true] at z
                rw [if_neg Bool.false_ne_true]
                cases z
                obtain ⟨k1, k2, k3, k4, k5⟩ := keepD e36
                exact mk (i + 1) g6 σ5 H6 _ acc zs us hlt r6 w5' (lenOf r6 w5') (e.trans e36) k1 k2 k3 k4 k5 (by omega) z2 (by rw [hy]; rfl)
              | true =>
                rw [if_pos rfl] at z
                rw [if_pos rfl]
                refine ⟨g6, s6, r6, ?_⟩
                cases zf : fe s6 with
                | stuck => rw [zf] at z; cases z
                | err c fs s' => rw [zf] at z; cases z
                | ok y s7 =>
                  rw [zf] at z
                  cases z
                  intro v7 H7 g7 r7 e7 a7
                  have e37 : Ext g H g7 H7 := e36.trans e7
                  obtain ⟨k1, k2, k3, k4, k5⟩ := keepD e37
                  obtain ⟨r8, e8⟩ := put (acc ++ [v7]) r7 (e.trans e37) (.inr k1) k3 k4 k5
                  refine ⟨acc, k1, Nat.lt_of_lt_of_le (show acc.length < 100001 by omega) (by decide), ?_⟩
                  exact mk (i + 1) g7 σ5 _ _ (acc ++ [v7]) (zs ++ [y]) us hlt r8 w5' (lenOf r8 w5') e8 upd_same (k2.append (.cons a7 .nil)) k3 k4 k5 (by rw [List.length_append]; simp; omega) z2 (by rw [hy]; simp)
    · have e0 : i = xs.length := by omega
      subst e0
      rw [List.drop_length] at hl2
      unfold lcL ret at hl2
      cases hl2
      refine .inl ⟨it.stop g H e.s r.m.sub, hq _ H g (r1.rest e r.m r.f r.tabs hωv) e ⟨Dd, acc, rfl, by rw [hy, List.append_nil]; exact rv, hH, hF, hφ, hω, hD⟩⟩
theorem f_lc {ifs : List Expr} {scope : Scope} {own : List (Str × Nat)} (hc : X.calm = true) (hN : X.N.Nodup) (hi : PI X tg iter (tI p fi)) (ok : BlkOk X.N X.env.scope scope own)
    (hg : ∀ (s : Shared) (H : Hp) (C : Addr) (cl : List (Str × Addr)) (fp : List Addr), PG (X.blk s H scope (compEnvC scope cl C X.env) fp) tg (cG p.blk (own.map (·.2)) t)) (ht : ∀ (s : Shared) (H : Hp) (C : Addr) (cl : List (Str × Addr)) (fp : List Addr), PTs (X.blk s H scope (compEnvC scope cl C X.env) fp) ifs (tB p.blk ba))
    (he : ∀ (s : Shared) (H : Hp) (C : Addr) (cl : List (Str × Addr)) (fp : List Addr), PE (X.blk s H scope (compEnvC scope cl C X.env) fp) elt (tD p.blk fe)) (hs : ∀ x, foldedSetIterable iter X.env x = pure x := by intro _; rfl) :
    PE X (.ListComp elt [⟨tg, iter, ifs, 0⟩] scope pos) (tF p (lcM (own.map (·.2)) fi t ba fe)) := (pe_lc hc hN hi ok hg ht he hs).imp fun σ H Q ⟨g, s, r, q⟩ => by
  refine ⟨g, s, r, Post.mono (Post.bnd (A := AI ⟨X.K, lt⟩) preF q) fun J H1 ⟨g1, s1, xs, r1, e1, it, q1⟩ => ?_⟩
  by_cases hc : xs.length ≤ 100000 ∧ ∀ v ∈ own.map (·.2), v < s1.env.length
  · rw [if_pos hc] at q1
    cases z : lcL (own.map (·.2)) t ba fe xs { s1 with env := wipeE s1.env (own.map (·.2)) } with
    | stuck => rw [z] at q1; exact q1.elim
    | err c fs s' => rw [z] at q1; exact q1.elim
    | ok ys s2 =>
      rw [z] at q1
      exact lc_use r1 it hc.1 hc.2 z q1
  · rw [if_neg hc] at q1
    exact q1.elim
theorem s_lc {i : Nat} {y : Str} {py spos : Pos} {ifs : List Expr} {scope : Scope} {own : List (Str × Nat)} (hc : X.calm = true) (hN : X.N.Nodup) (hy : X.N[i]? = some y) (hyl : X.env.scope.names.lookup y = some .local)
    (hsw : swapsWith (.ListComp elt [⟨tg, iter, ifs, 0⟩] scope pos) (some (.Name y py)) spos.line X.env = pure true) (hi : PI X tg iter (tI p fi)) (ok : BlkOk X.N X.env.scope scope own)
    (hg : ∀ (s : Shared) (H : Hp) (C : Addr) (cl : List (Str × Addr)) (fp : List Addr), PG (X.blk s H scope (compEnvC scope cl C X.env) fp) tg (cG p.blk (own.map (·.2)) t)) (ht : ∀ (s : Shared) (H : Hp) (C : Addr) (cl : List (Str × Addr)) (fp : List Addr), PTs (X.blk s H scope (compEnvC scope cl C X.env) fp) ifs (tB p.blk ba))
    (he : ∀ (s : Shared) (H : Hp) (C : Addr) (cl : List (Str × Addr)) (fp : List Addr), PE (X.blk s H scope (compEnvC scope cl C X.env) fp) elt (tD p.blk fe)) (hs : ∀ x, foldedSetIterable iter X.env x = pure x := by intro _; rfl) :
    PS X (.Assign [.Name y py] (.ListComp elt [⟨tg, iter, ifs, 0⟩] scope pos) spos) (tS p (asgS (frzd (lcM (own.map (·.2)) fi t ba fe)) (setv i))) := (ps_setLc hc hN hy hyl hsw hi ok hg ht he hs).imp fun D σ H ⟨g, s, r, q⟩ => by
  have key : tF p (lcM (own.map (·.2)) fi t ba fe) σ H fun x H1 => gName i x σ H1 D.nx := by
    refine ⟨g, s, r, ?_⟩
    unfold asgS frzd at q
    generalize lcM (own.map (·.2)) fi t ba fe = ff at q ⊢
    unfold bnd at q
    cases z : ff s with
    | stuck => rw [z] at q; exact q.elim
    | err c fs s' => rw [z] at q; exact fun H' g' dx a b c => q σ H' g' dx a b.s c
    | ok ds s1 =>
      rw [z] at q
      intro v H1 g1 r1 e1 ⟨a1, vs1, ev, rv, ha1, hf1, hp1, ho1, hn1⟩
      subst ev
      have q : PstS p (bnd (setv i (.lst ds)) (fun _ => ret .nx) s1) g H D := q
      unfold bnd setv at q
      by_cases hl : i < s1.env.length
      · rw [if_pos hl] at q
        have r2 := r.fz r1 e1 hn1 ha1 hf1 hp1 ho1
        have e2 := e1.fz (vs := vs1) hf1 hn1
        exact q _ _ _ (r2.setv hl (.lst upd_same (RVs.up (fz_up hf1) ⟨[], by simp [G.fz]⟩ _ _ rv))) (e2.trans (G.dropE _ H1 i)).s
      · rw [if_neg hl] at q
        exact q.elim
  obtain ⟨g, s, r, q⟩ := key
  refine ⟨g, s, r, Post.mono (Post.bnd (A := AI ⟨X.K, lt⟩) preF q) fun J H1 ⟨g1, s1, xs, r1, e1, it, q1⟩ => ?_⟩
  by_cases hc : xs.length ≤ 100000 ∧ ∀ v ∈ own.map (·.2), v < s1.env.length
  · rw [if_pos hc] at q1
    cases z : lcL (own.map (·.2)) t ba fe xs { s1 with env := wipeE s1.env (own.map (·.2)) } with
    | stuck => rw [z] at q1; exact q1.elim
    | err c fs s' => rw [z] at q1; exact q1.elim
    | ok ys s2 =>
      rw [z] at q1
      exact lc_use r1 it hc.1 hc.2 z q1
  · rw [if_neg hc] at q1
    exact q1.elim
theorem s_lcown {i : Nat} {y : Str} {py spos : Pos} {ifs : List Expr} {scope : Scope} {own : List (Str × Nat)} (hc : X.calm = true) (hN : X.N.Nodup) (hy : X.N[i]? = some y) (hyl : X.env.scope.names.lookup y = some .local)
    (hsw : swapsWith (.ListComp elt [⟨tg, iter, ifs, 0⟩] scope pos) (some (.Name y py)) spos.line X.env = pure true) (hi : PI X tg iter (tI p fi)) (ok : BlkOk X.N X.env.scope scope own)
    (hg : ∀ (s : Shared) (H : Hp) (C : Addr) (cl : List (Str × Addr)) (fp : List Addr), PG (X.blk s H scope (compEnvC scope cl C X.env) fp) tg (cG p.blk (own.map (·.2)) t)) (ht : ∀ (s : Shared) (H : Hp) (C : Addr) (cl : List (Str × Addr)) (fp : List Addr), PTs (X.blk s H scope (compEnvC scope cl C X.env) fp) ifs (tB p.blk ba))
    (he : ∀ (s : Shared) (H : Hp) (C : Addr) (cl : List (Str × Addr)) (fp : List Addr), PE (X.blk s H scope (compEnvC scope cl C X.env) fp) elt (tD p.blk fe)) (hs : ∀ x, foldedSetIterable iter X.env x = pure x := by intro _; rfl) :
    PS X (.Assign [.Name y py] (.ListComp elt [⟨tg, iter, ifs, 0⟩] scope pos) spos) (tS p (ownS (lcM (own.map (·.2)) fi t ba fe) i)) := (ps_setLc hc hN hy hyl hsw hi ok hg ht he hs).imp fun D σ H ⟨g, s, r, q⟩ => by
  have key : tF p (lcM (own.map (·.2)) fi t ba fe) σ H fun x H1 => gName i x σ H1 D.nx := by
    refine ⟨g, s, r, ?_⟩
    unfold ownS at q
    generalize lcM (own.map (·.2)) fi t ba fe = ff at q ⊢
    unfold bnd at q
    cases z : ff s with
    | stuck => rw [z] at q; exact q.elim
    | err c fs s' => rw [z] at q; exact fun H' g' dx a b c => q σ H' g' dx a b.s c
    | ok ds s1 =>
      rw [z] at q
      intro v H1 g1 r1 e1 ⟨a1, vs1, ev, rv, ha1, hf1, hp1, ho1, hn1⟩
      subst ev
      have q : PstS p (bnd (setown i ds) (fun _ => ret .nx) s1) g H D := q
      unfold bnd setown at q
      by_cases hl : i < s1.env.length
      · rw [if_pos hl] at q
        exact q _ _ _ (r.setown r1 e1.s hl ha1 rv hf1 hp1 ho1 hn1) (e1.s.take hn1 ha1)
      · rw [if_neg hl] at q
        exact q.elim
  obtain ⟨g, s, r, q⟩ := key
  refine ⟨g, s, r, Post.mono (Post.bnd (A := AI ⟨X.K, lt⟩) preF q) fun J H1 ⟨g1, s1, xs, r1, e1, it, q1⟩ => ?_⟩
  by_cases hc : xs.length ≤ 100000 ∧ ∀ v ∈ own.map (·.2), v < s1.env.length
  · rw [if_pos hc] at q1
    cases z : lcL (own.map (·.2)) t ba fe xs { s1 with env := wipeE s1.env (own.map (·.2)) } with
    | stuck => rw [z] at q1; exact q1.elim
    | err c fs s' => rw [z] at q1; exact q1.elim
    | ok ys s2 =>
      rw [z] at q1
      exact lc_use r1 it hc.1 hc.2 z q1
  · rw [if_neg hc] at q1
    exact q1.elim
end
end Mp

set_option Elab.async false
set_option linter.all false
set_option maxRecDepth 100000
set_option maxHeartbeats 4000000
namespace Mp
open PySem PySem.Spec L2
open PyProof.Rows hiding St

/-! ### defs, where no repr is under way around -/
structure FnG (P : Program) (w : World) (K : PySem.W.Frag) (mg : Str → Option Value) (base : Heap) (k : Nat) (f : Addr) (fd : FuncData) (ps : List Str) (sp : Sp) : Prop where
  len : ∀ vs H Q E, sp vs H Q E → vs.length = ps.length
  run : ∀ (A : Around) (outer : List Env) (s : Shared) (H : Hp) (args : Args) (us : List Value) (vs : List V) (Q : VK) (E : XK), A.guards = some [] → Room k A → Env0 P w K mg base A outer s H → BindsTo s fd args (ps.zip us) → Vals vs us → sp vs H Q E →
    codeAny (model P w) A (.call (.ref f) args) (CR (L2.CX P w) outer P w H s Q E) s
theorem FnG.mono {P : Program} {w : World} {K : PySem.W.Frag} {mg : Str → Option Value} {base : Heap} {j k : Nat} {f : Addr} {fd : FuncData} {ps : List Str} {sp : Sp} (F : FnG P w K mg base j f fd ps sp) (h : j ≤ k) : FnG P w K mg base k f fd ps sp :=
  ⟨F.len, fun A outer s H args us vs Q E hg hr => F.run A outer s H args us vs Q E hg (hr.mono h)⟩
/-- a def's body's setting -/
abbrev Bx (P : Program) (w : World) (K : PySem.W.Frag) (mg : Str → Option Value) (base : Heap) (N : List Str) (qual : Str) (scope : Scope) (f : Addr) (cd : Value) (A : Around) (outer : List Env) (s : Shared) (H : Hp) (E : XK) : Cx := cxOf (L2.CX P w) P w K mg base N qual scope f cd A outer s H E
theorem fnG_of {P : Program} {w : World} {K : PySem.W.Frag} {mg : Str → Option Value} {base : Heap} {k : Nat} {f : Addr} {x qual : Str} {st : Stmt} {fd : FuncData} {N ps : List Str} {sp : Sp} (F : Fun K x qual st f fd) (S : FnScope N ps (defScope st))
    (len : ∀ vs H Q E, sp vs H Q E → vs.length = ps.length)
    (hbody : ∀ (cdv : Value) (A : Around) (outer : List Env) (s : Shared) (H : Hp) (vs : List V) (Q : VK) (E : XK), A.guards = some [] → Room k (A.deeper (envOfC qual (defScope st) s.heap.objs.size f cdv)) → sp vs H Q E →
      ∃ t, PSs (Bx P w K mg base N qual (defScope st) f cdv A outer s H E) (defBody st) t ∧ t { nx := fun _ H' => Q .non H', rt := Q } (L2.start N vs) H) :
    FnG P w K mg base (k + 1) f fd ps sp := by
  obtain ⟨oc, od, kV, doc, pm, an, cdv, ct, osl, rfl, lk, hcd⟩ := F.ex
  refine ⟨len, fun A outer s H args us vs Q E hgd hr e0 hb r hsp => ?_⟩
  have keepK : ∀ b o, base.get? b = some o → s.heap.get? b = some o := fun b o e => (e0.bs b o e).1
  have bound : ∀ y ∈ ps.zip us, (defScope st).names.lookup y.1 = some .local ∨ ((defScope st).names.lookup y.1 = some .cell ∧ ((cellsFrom (s.heap.objs.size + 1) (defScope st).names []).lookup y.1).isSome = true) := fun y hy =>
    (S.par y.1 (List.of_mem_zip (show (y.1, y.2) ∈ ps.zip us from hy)).1).imp (fun q => q) fun q => ⟨q, PySem.W.cellsFrom_some _ _ _ (.inl q)⟩
  refine codeAny_call_function hr.depth (e0.mod.kin.keeps keepK _ _ lk) rfl S.co S.gen rfl (PySem.W.codeRec_of (e0.mod.kin.keeps keepK) hcd) (hb _ _ _ _ ?_)
  refine wpAny_newFunctionEnv_cells S.kind bound fun env he s1 x => ?_
  subst he
  refine ⟨(e0.mod.nolimit.keeps keepK).keeps x.toInCall.keep, codeAny_func ?_⟩
  obtain ⟨t, ht, hq⟩ := hbody cdv A outer s H vs Q E hgd (hr.deeper _) hsp
  have I := inv_start (CX := L2.CX P w) (cd := cdv) (f := f) (qual := qual) (E := E) S hr.hd e0 (len _ _ _ _ hsp) r x
  refine wpAny_mono (ht.run [] s1 (L2.start N vs) H _ I hq) (fun fl s' hs => ?_) fun e s' hs => hs
  cases fl with
  | ret u =>
    obtain ⟨v, σ', H', J, rv, q⟩ := hs
    exact ⟨v, H', J.os, J.bare, J.base, J.hok, rv, q⟩
  | next =>
    obtain ⟨σ', H', J, q⟩ := hs
    exact ⟨.non, H', J.os, J.bare, J.base, J.hok, rfl, q⟩
  | brk =>
    obtain ⟨_, _, _, q⟩ := hs
    exact False.elim q
  | cont =>
    obtain ⟨_, _, _, q⟩ := hs
    exact False.elim q
/-! ### what a def's mirror promises -/
def spD (K : Kx) (T : List (Addr × Str)) (n : Nat) (F : List D → M D) : Sp := fun vs H Q E => vs.length = n ∧ ∃ (B : Bg K) (g : G) (ms : List (List D)) (ds : List D), (∀ i, g.ω i = none) ∧ RM K g H ms ∧ LamX.Tabs T H ∧ B.P g H ms ∧ RVs K g.F g.φ ds vs ∧
  match F ds ⟨[], ms⟩ with
  | .ok d s' => ∀ v H' g', RM K g' H' s'.ms → LamX.Tabs T H' → (∀ i, g'.ω i = none) → Ext g H g' H' → RV K g'.F g'.φ d v → Q v H'
  | .err c fs s' => ∀ H' g' dx, RM K g' H' s'.ms → LamX.Tabs T H' → (∀ i, g'.ω i = none) → Ext g H g' H' → REx K g' H' fs dx → E (K.tr c) dx H'
  | .stuck => False
/-- a body as a def: n slots, the parameters first -/
def fnM (n k : Nat) (body : M Fl) : List D → M D := fun ds s => if ds.length = k then
    match body ⟨ds.map .val ++ List.replicate (n - k) .un, s.ms⟩ with
    | .ok .nx s' => .ok .non ⟨s.env, s'.ms⟩
    | .ok (.ret d) s' => .ok d ⟨s.env, s'.ms⟩
    | .ok _ _ => .stuck
    | .err c fs s' => .err c fs ⟨s.env, s'.ms⟩
    | .stuck => .stuck
  else .stuck
/-- the slots' own lists are let go -/
def G.clr (g : G) : G := { g with ω := fun _ => none }
section
variable {K : Kx} {p : Pm K} {σ : L2.St} {g g' : G} {H H' : Hp} {s s' : S}
theorem RM.clr {ms : List (List D)} (m : RM K g H ms) : RM K g.clr H ms := ⟨m.sub, m.mlen, m.mem, m.nod, m.nt⟩
theorem clrE (g : G) (H : Hp) : Ext g H g.clr H := ⟨fun _ _ h => h, ⟨[], by simp [G.clr]⟩, fun _ h => .inl h, fun _ _ h => .inl h, fun i a h => (nomatch h), fun _ o h => ⟨o, h⟩, fun _ _ h _ _ => h⟩
theorem ExtS.clr (e : ExtS g H g' H') (h : ∀ i, g.ω i = none) : Ext g H g'.clr H' where
  fr := e.fr
  ph := e.ph
  new := e.new
  fnew := fun b o z => (e.fnew b o z).imp (fun z => z) fun z => z.imp (fun z => z) fun z => z.imp (fun z => z) fun ⟨w, z1, z2, z3, z4⟩ => ⟨w, z1, z2, z3, fun j y => nomatch y⟩
  nom := fun i a h => nomatch h
  there := e.there
  keep := fun b o q n t => e.keep b o q n (fun i z => by rw [h i] at z; cases z) t
theorem REx.clr {fs : List (Str × D)} {dx : Option Addr} (h : REx K g H fs dx) : REx K g.clr H fs dx := by
  cases dx with
  | none => exact h
  | some d =>
    obtain ⟨vs, z1, z2, z3, z4⟩ := h
    exact ⟨vs, z1, z2, z3, fun i z => nomatch z⟩
theorem start_get {N : List Str} {vs : List V} {i : Nat} (h : i < vs.length) : (L2.start N vs)[i]? = (vs[i]?).map some := by
  unfold L2.start
  rw [List.getElem?_append_left (by simpa using h), List.getElem?_map]
/-- at a def's entry -/
theorem RS.entry {T : List (Addr × Str)} {B : Bg K} {W : WX} {N : List Str} {vs : List V} {ds : List D} {ms : List (List D)} (hω : ∀ i, g.ω i = none) (m : RM K g H ms) (t : LamX.Tabs T H) (b : B.P g H ms) (rv : RVs K g.F g.φ ds vs) (hl : ds.length ≤ N.length) :
    RS (K := K) ⟨T, B, W, none⟩ g (L2.start N vs) H ⟨ds.map .val ++ List.replicate (N.length - ds.length) .un, ms⟩ := by
  have e := rv.length
  refine ⟨m, ⟨?_, fun i d q => ?_, fun i xs q => ?_, fun i c fs q => ?_, fun i a q => ?_, fun i j a q => ?_⟩, t, b⟩
  · unfold L2.start
    simp
    omega
  · have q : (ds.map Sl.val ++ List.replicate (N.length - ds.length) Sl.un)[i]? = some (Sl.val d) := q
    by_cases hi : i < ds.length
    · rw [List.getElem?_append_left (by simpa using hi), List.getElem?_map] at q
      cases z : ds[i]? with
      | none => rw [z] at q; cases q
      | some d' =>
        rw [z] at q
        cases q
        obtain ⟨v, h1, h2⟩ := rv.getD z
        exact ⟨v, by rw [start_get (by omega), h1]; rfl, h2⟩
    · rw [List.getElem?_append_right (by simpa using hi), List.getElem?_replicate] at q
      split at q <;> cases q
  · have q : (ds.map Sl.val ++ List.replicate (N.length - ds.length) Sl.un)[i]? = some (Sl.own xs) := q
    by_cases hi : i < ds.length
    · rw [List.getElem?_append_left (by simpa using hi), List.getElem?_map] at q
      cases z : ds[i]? with
      | none => rw [z] at q; cases q
      | some d' => rw [z] at q; cases q
    · rw [List.getElem?_append_right (by simpa using hi), List.getElem?_replicate] at q
      split at q <;> cases q
  · have q : (ds.map Sl.val ++ List.replicate (N.length - ds.length) Sl.un)[i]? = some (Sl.exc c fs) := q
    by_cases hi : i < ds.length
    · rw [List.getElem?_append_left (by simpa using hi), List.getElem?_map] at q
      cases z : ds[i]? with
      | none => rw [z] at q; cases q
      | some d' => rw [z] at q; cases q
    · rw [List.getElem?_append_right (by simpa using hi), List.getElem?_replicate] at q
      split at q <;> cases q
  · rw [hω i] at q; cases q
  · rw [hω i] at q; cases q
/-- behind a call: the caller's slots stand -/
def G.put (g g' : G) : G := { g' with ω := g.ω }
theorem RS.back {ms' : List (List D)} (r : RS p g σ H s) (e : Ext g.clr H g' H') (m : RM K g' H' ms') (t : LamX.Tabs p.T H') : RS p (g.put g') σ H' { s with ms := ms' } ∧ Ext g H (g.put g') H' := by
  have offF : ∀ {a : Addr} {us : List V}, H a = some (.lst us) → H' a = some (.lst us) → g.F a = none → g'.F a = none := fun {a us} h1 hk h2 => by
    cases q : g'.F a with
    | none => rfl
    | some u =>
      rcases e.fnew a u q with z | z | ⟨i, z⟩ | ⟨_, _, z, _⟩
      · rw [show g.clr.F a = g.F a from rfl, h2] at z; cases z
      · rw [h1] at z; cases z
      · cases z
      · rw [hk] at z
        exact (lst_ne_co z).elim
  have offφ : ∀ {a : Addr} {o : HO}, H a = some o → a ∉ g.φ → a ∉ g'.φ := fun {a o} h1 h2 q => by
    rcases e.new a q with z | z
    · exact h2 z
    · rw [h1] at z; cases z
  have hCo : ∀ {a : Addr} {w : Str}, H' a = some (LamX.CodeO a w) → ∀ i, (g.put g').ω i ≠ some a := fun {a w} z i y => by
    obtain ⟨ds, hd⟩ := r.f.is i a y
    obtain ⟨b, vs, k1, _, k3, _, _, k6⟩ := r.f.own i ds hd
    rw [show g.ω i = some a from y] at k1
    cases k1
    rw [e.keep _ _ k3 k6 (fun _ z => by cases z)] at z
    exact lst_ne_co z
  have ex : Ext g H (g.put g') H' := ⟨e.fr, e.ph, e.new, fun a o q => (e.fnew a o q).imp (fun z => z) (fun z => z.imp (fun z => z) fun z => z.elim (fun ⟨i, z⟩ => nomatch z) fun ⟨w, z1, z2, z3, z4⟩ => .inr ⟨w, z1, z2, z3, hCo z2⟩), fun i a q => .inl ⟨i, q⟩, e.there, e.keep⟩
  refine ⟨r.go (s' := { s with ms := ms' }) ex.s ⟨m.sub, m.mlen, m.mem, m.nod, m.nt⟩ ⟨r.f.len, fun i d q => ?_, fun i ds q => ?_, fun i c fs q => ?_, r.f.is, r.f.inj⟩ t, ex⟩
  · obtain ⟨v, h1, h2⟩ := r.f.env i d q
    exact ⟨v, h1, ex.rv h2⟩
  · obtain ⟨a, vs, h1, h2, h3, h4, h5, h6⟩ := r.f.own i ds q
    exact ⟨a, vs, h1, h2, e.keep _ _ h3 h6 (fun _ z => by cases z), ex.rvs h4, offF h3 (e.keep _ _ h3 h6 (fun _ z => by cases z)) h5, offφ h3 h6⟩
  · obtain ⟨a, dx, h1, h2, h3⟩ := r.f.exc i c fs q
    refine ⟨a, dx, h1, h2, ?_⟩
    cases dx with
    | none => exact h3
    | some d =>
      obtain ⟨vs, z1, z2, z3, z4⟩ := h3
      exact ⟨vs, e.keep _ _ z1 z3 (fun _ z => by cases z), ex.rvs z2, offφ z1 z3, z4⟩
end
theorem wx_of {K : Kx} {g g' : G} {H' : Hp} {fs : List (Str × D)} {dx : Option Addr} {σ : L2.St} {p : Pm K} {s : S} (r : RS p (g.put g') σ H' s) (h : REx K g' H' fs dx) : REx K (g.put g') H' fs dx := by
  cases dx with
  | none => exact h
  | some d =>
    obtain ⟨vs, z1, z2, z3, z4⟩ := h
    refine ⟨vs, z1, z2, z3, fun i z => ?_⟩
    obtain ⟨ds, hd⟩ := r.f.is i d z
    obtain ⟨a, ws, q1, q2, q3, _⟩ := r.f.own i ds hd
    rw [q1] at z
    cases z
    rw [z1] at q3
    cases q3
/-- THE RULE for a def -/
theorem fnG_mk {P : Program} {w : World} {K : Kx} {mg : Str → Option Value} {base : Heap} {k : Nat} {f : Addr} {x qual : Str} {st : Stmt} {fd : FuncData} {N ps : List Str} {T : List (Addr × Str)} {body : M Fl} (F : Fun K.K x qual st f fd) (S : FnScope N ps (defScope st))
    (hbody : ∀ (cdv : Value) (A : Around) (outer : List Env) (s : Shared) (H : Hp) (E : XK) (B : Bg K), A.guards = some [] → Room k (A.deeper (envOfC qual (defScope st) s.heap.objs.size f cdv)) →
      PSs (Bx P w K.K mg base N qual (defScope st) f cdv A outer s H E) (defBody st) (tS (K := K) ⟨T, B, fun c d _ H => E c d H, none⟩ body)) :
    FnG P w K.K mg base (k + 1) f fd ps (spD K T ps.length (fnM N.length ps.length body)) := by
  refine fnG_of F S (fun vs H Q E h => h.1) fun cdv A outer s H vs Q E hg hr ⟨hl, B, g, ms, ds, hω, m, t, b, rv, q⟩ => ⟨_, hbody cdv A outer s H E B hg hr, ?_⟩
  have hds : ds.length = ps.length := rv.length.trans hl
  have hN : ps.length ≤ N.length := by have := congrArg List.length S.pre; rw [List.length_take] at this; omega
  refine ⟨g, _, RS.entry (N := N) hω m t b rv (by omega), ?_⟩
  unfold fnM at q
  rw [if_pos hds] at q
  rw [hds]
  cases z : body ⟨ds.map .val ++ List.replicate (N.length - ps.length) .un, ms⟩ with
  | stuck => rw [z] at q; exact q.elim
  | err c fs s' =>
    rw [z] at q
    exact fun σ' H' g' dx r e hx => q H' g'.clr dx r.m.clr r.tabs (fun _ => rfl) (e.clr hω) hx.clr
  | ok fl s' =>
    rw [z] at q
    cases fl with
    | nx => exact fun σ' H' g' r e => q .non H' g'.clr r.m.clr r.tabs (fun _ => rfl) (e.clr hω) .non
    | ret d => exact fun v σ' H' g' r e rv => q v H' g'.clr r.m.clr r.tabs (fun _ => rfl) (e.clr hω) rv
    | bk => exact q.elim
    | ct => exact q.elim
end Mp

set_option Elab.async false
set_option linter.all false
set_option maxRecDepth 100000
set_option maxHeartbeats 4000000
namespace Mp
open PySem PySem.Spec L2
open PyProof.Rows hiding St

/-! ### calls of defs -/
/-- a def's mirror behind its arguments -/
def onMs (m : M D) : M D := fun s => match m ⟨[], s.ms⟩ with
  | .ok d s' => .ok d ⟨s.env, s'.ms⟩
  | .err c fs s' => .err c fs ⟨s.env, s'.ms⟩
  | .stuck => .stuck
def callM (F : List D → M D) (fl : M (List D)) : M D := bnd fl fun ds => onMs (F ds)
def reord {α : Type} (o : List Nat) (xs : List α) : List α := o.filterMap fun i => xs[i]?
def callK (nu nk : Nat) (o : List Nat) (F : List D → M D) (fl fk : M (List D)) : M D := bnd fl fun ds => bnd fk fun es => if ds.length = nu ∧ es.length = nk then onMs (F (ds ++ reord o es)) else stk
/-- how keywords bind -/
def KB (K : PySem.W.Frag) (fd : FuncData) (ps ks : List Str) (nu : Nat) (o : List Nat) : Prop :=
  ∀ (s : Shared) (us ws : List Value), K.In s.heap → us.length = nu → ws.length = ks.length → BindsTo s fd ⟨us, ks.zip ws⟩ (ps.zip (us ++ reord o ws))
theorem RVs.reord {K : Kx} {F : Hp} {φ : List Addr} {ds : List D} {vs : List V} (h : RVs K F φ ds vs) : ∀ o : List Nat, RVs K F φ (Mp.reord o ds) (Mp.reord o vs)
  | [] => .nil
  | i :: o => by
    unfold Mp.reord
    have ih := RVs.reord h o
    unfold Mp.reord at ih
    rw [List.filterMap_cons, List.filterMap_cons]
    cases e : ds[i]? with
    | none =>
      have e2 : vs[i]? = none := by
        rw [List.getElem?_eq_none_iff] at e ⊢
        rw [← h.length]; exact e
      rw [e2]
      exact ih
    | some d =>
      obtain ⟨v, h1, h2⟩ := h.getD e
      rw [h1]
      exact .cons h2 ih
theorem vals_reord {vs : List V} {us : List Value} (h : Vals vs us) : ∀ o : List Nat, Vals (reord o vs) (reord o us)
  | [] => .nil
  | i :: o => by
    unfold reord
    have ih := vals_reord h o
    unfold reord at ih
    rw [List.filterMap_cons, List.filterMap_cons]
    cases e : vs[i]? with
    | none =>
      have e2 : us[i]? = none := by
        rw [List.getElem?_eq_none_iff] at e ⊢
        rw [← h.length]; exact e
      rw [e2]
      exact ih
    | some d =>
      obtain ⟨v, h1, h2⟩ := h.get e
      rw [h1]
      exact .cons h2 ih
theorem seqLL {K : Kx} {p : Pm K} {σ : L2.St} {H : Hp} {γ δ : Type} {A' : γ → δ → G → Hp → G → Hp → Prop} (pa : Pre A') {fa fb : M (List D)} {k : List D → List D → M γ} {Q : δ → Hp → Prop} (h : tG p A' (bnd fa fun x => bnd fb fun y => k x y) σ H Q) :
    tL p fa σ H fun v H1 => tL p fb σ H1 fun u H2 => ∃ g2 s2 x y, RS p g2 σ H2 s2 ∧ RVs K g2.F g2.φ x v ∧ RVs K g2.F g2.φ y u ∧ Post p σ A' (k x y s2) g2 H2 Q := by
  obtain ⟨g, s, r, q⟩ := h
  refine ⟨g, s, r, Post.mono (Post.bnd (A := AL K) pa q) fun v H1 ⟨g1, s1, x, r1, e1, a1, q1⟩ => ?_⟩
  refine ⟨g1, s1, r1, Post.mono (Post.bnd (A := AL K) pa q1) fun u H2 ⟨g2, s2, y, r2, e2, a2, q2⟩ => ⟨g2, s2, x, y, r2, e2.rvs a1, a2, q2⟩⟩
/-- a def with its mirror -/
structure FnD (P : Program) (w : World) (K : Kx) (T : List (Addr × Str)) (mg : Str → Option Value) (base : Heap) (k : Nat) (f : Addr) (fd : FuncData) (ps : List Str) (F : List D → M D) : Prop where
  ok : FnG P w K.K mg base k f fd ps (spD K T ps.length F)
  st : ∀ ds s, ds.length ≠ ps.length → F ds s = .stuck
theorem FnD.mono {P : Program} {w : World} {K : Kx} {T : List (Addr × Str)} {mg : Str → Option Value} {base : Heap} {j k : Nat} {f : Addr} {fd : FuncData} {ps : List Str} {F : List D → M D} (h : FnD P w K T mg base j f fd ps F) (hk : j ≤ k) : FnD P w K T mg base k f fd ps F := ⟨h.ok.mono hk, h.st⟩
theorem fnD_mk {P : Program} {w : World} {K : Kx} {mg : Str → Option Value} {base : Heap} {k : Nat} {f : Addr} {x qual : Str} {st : Stmt} {fd : FuncData} {N ps : List Str} {T : List (Addr × Str)} {body : M Fl} (F : Fun K.K x qual st f fd) (S : FnScope N ps (defScope st))
    (hbody : ∀ (cdv : Value) (A : Around) (outer : List Env) (s : Shared) (H : Hp) (E : XK) (B : Bg K), A.guards = some [] → Room k (A.deeper (envOfC qual (defScope st) s.heap.objs.size f cdv)) →
      PSs (Bx P w K.K mg base N qual (defScope st) f cdv A outer s H E) (defBody st) (tS (K := K) ⟨T, B, fun c d _ H => E c d H, none⟩ body)) :
    FnD P w K T mg base (k + 1) f fd ps (fnM N.length ps.length body) := ⟨fnG_mk F S hbody, fun ds s h => by unfold fnM; rw [if_neg h]⟩
section
variable {X : Cx} {lt : Nat → LamI} {p : Pm ⟨X.K, lt⟩} {e a b c : Expr} {es : List Expr} {kws : List Keyword} {pos pf kpos : Pos} {fa fb fc : M D} {fl fk : M (List D)} {k : Nat} {f : Addr} {fd : FuncData} {ps ks : List Str} {n : Nat} {F : List D → M D} {x : Str}
theorem k_nil : PK X [] (tL p argN) := ⟨fun pos pins s σ H Q I h => pk_nil.run pos pins s σ H Q I (by
  obtain ⟨g, s, r, q⟩ := h
  exact q [] H g r (.refl g H) .nil)⟩
theorem k_cons {nm : Option Str} {r : M (List D)} (he : PE X e (tD p fa)) (ha : PK X kws (tL p r)) : PK X (⟨nm, e, kpos⟩ :: kws) (tL p (argC fa r)) := ⟨fun pos pins s σ H Q I h => (pk_cons he ha).run pos pins s σ H Q I (by
  obtain ⟨g, s, rs, q⟩ := h
  refine ⟨g, s, rs, Post.mono (Post.bnd (A := AV ⟨X.K, lt⟩) preL q) fun v H1 ⟨g1, s1, d, r1, e1, a1, q1⟩ => ?_⟩
  refine ⟨g1, s1, r1, Post.mono (Post.bnd (A := AL ⟨X.K, lt⟩) preL q1) fun vs H2 ⟨g2, s2, ds, r2, e2, a2, q2⟩ => ?_⟩
  exact q2 (v :: vs) H2 g2 r2 (.refl _ _) (.cons (e2.rv a1) a2))⟩
/-- the callee runs -/
theorem run_G {pins : List (Addr × Obj)} {σ : L2.St} {H : Hp} {s : Shared} {Q : VK} {args : Args} {us : List Value} {vs : List V} {ds : List D} {g : G} {s1 : S} (FO : FnG X.prog X.w X.K X.mg X.base k f fd ps (spD ⟨X.K, lt⟩ p.T n F)) (hgd : X.A.guards = some []) (hr : Room k X.A) (tk : Takes X p.W)
    (I : Inv X pins σ H s) (hb : us.length = ps.length → BindsTo s fd args (ps.zip us)) (rv : Vals vs us) (r : RS p g σ H s1) (rd : RVs ⟨X.K, lt⟩ g.F g.φ ds vs) (hn : vs.length = n) (q : Post p σ (AV ⟨X.K, lt⟩) (onMs (F ds) s1) g H Q) :
    codeAny (model X.prog X.w) X.A (.call (.ref f) args) (fun r s' => match r with | .ok (.ret u) => EP X pins σ Q u s' | .ok _ => False | .error e => X.xe e s') s := by
  have hsp : spD ⟨X.K, lt⟩ p.T n F vs H Q (fun c d H' => p.W c d σ H') := by
    refine ⟨hn, p.B, g.clr, s1.ms, ds, fun _ => rfl, r.m.clr, r.tabs, p.B.up r.bg (clrE g H).s r.m.clr, rd, ?_⟩
    unfold onMs at q
    cases z : F ds ⟨[], s1.ms⟩ with
    | stuck => rw [z] at q; exact q.elim
    | ok d s' =>
      rw [z] at q
      intro v H' g' m t hω e rv'
      obtain ⟨r2, e2⟩ := r.back e m t
      exact q v H' _ r2 e2 rv'
    | err c fs s' =>
      rw [z] at q
      intro H' g' dx m t hω e hx
      obtain ⟨r2, e2⟩ := r.back e m t
      exact q H' _ dx r2 e2 (wx_of r2 hx)
  have hl : us.length = ps.length := by rw [← rv.length]; exact FO.len _ _ _ _ hsp
  refine codeAny_mono (FO.run X.A X.stack s H args us vs Q _ hgd hr I.env0 (hb hl) rv hsp) fun r s' hq => ?_
  cases r with
  | error e => exact tk e s' (XE.of_call I (fun cls d H' h => h) hq)
  | ok fl =>
    cases fl with
    | ret u => exact I.after hq
    | next => exact False.elim hq
    | brk => exact False.elim hq
    | cont => exact False.elim hq
theorem call_of {pins : List (Addr × Obj)} {σ : L2.St} {Q : VK} {s : Shared} {us : List Value} {kw : List (Str × Value)} (h : codeAny (model X.prog X.w) X.A (.call (.ref f) ⟨us, kw⟩) (fun r s' => match r with | .ok (.ret u) => EP X pins σ Q u s' | .ok _ => False | .error e => X.xe e s') s) :
    wpAny (model X.prog X.w) X.A (call (.ref f) us kw) (EP X pins σ Q) X.xe s := wpAny_call (codeAny_mono h fun r s' hq => by
  cases r with
  | error e => exact hq
  | ok fl => cases fl <;> exact hq)
/-- f(e, ..) -/
theorem d_call (FO : FnD X.prog X.w ⟨X.K, lt⟩ p.T X.mg X.base k f fd ps F) (hgd : X.A.guards = some []) (hr : Room k X.A) (tk : Takes X p.W) (hg : Gl X x) (hm : X.mg x = some (.ref f)) (hk : PySem.W.keepIn X.K (.ref f) = true) (hb : Binds X.K fd ps [])
    (ha : PA X (e :: es) (tL p fl)) (hdb : (x == ("__debug__" : Str)) = false := by decide) (he : starEach (e :: es) X.env = (false, eval e X.env) :: starEach es X.env := by rfl) (hpl : (backTo pos (starEach es X.env)).any (·.1) = false := by rfl) :
    PE X (.Call (.Name x pf) (e :: es) [] pos) (tD p (callM F fl)) := by
  refine ⟨fun pins s σ H Q I h => ?_⟩
  refine wpAny_Call_Name_kw (ld_glob I hg hm ?_ hdb)
  refine PySem.W.callWith_K (h₀ := X.base) I.ok.mod.kin hk (thn (ha.run pos pins s σ H _ I (seqL preV h)) fun us s1 ⟨vs, H1, I1, r, g1, s1', ds, rs1, rv, q⟩ => ⟨I1.kIn, call_of ?_⟩) he hpl
  have q : Post p σ (AV ⟨X.K, lt⟩) (onMs (F ds) s1') g1 H1 Q := q
  have hlen : vs.length = ps.length := by
    by_cases hz : vs.length = ps.length
    · exact hz
    · unfold onMs at q
      rw [FO.st ds _ (by rw [rv.length]; exact hz)] at q
      exact q.elim
  refine run_G FO.ok hgd hr tk I1 (fun hl => ?_) r rs1 rv hlen q
  have := hb s1 us I1.kIn (by rw [List.append_nil]; exact hl)
  rwa [List.append_nil] at this
/-- f() -/
theorem d_call0 (FO : FnD X.prog X.w ⟨X.K, lt⟩ p.T X.mg X.base k f fd ps F) (hgd : X.A.guards = some []) (hr : Room k X.A) (tk : Takes X p.W) (hg : Gl X x) (hm : X.mg x = some (.ref f)) (hk : PySem.W.keepIn X.K (.ref f) = true) (hb : Binds X.K fd ps [])
    (hps : ps = [] := by rfl) (hdb : (x == ("__debug__" : Str)) = false := by decide) :
    PE X (.Call (.Name x pf) [] [] pos) (tD p (callM F argN)) := by
  refine ⟨fun pins s σ H Q I h => ?_⟩
  refine wpAny_Call_Name_kw (ld_glob I hg hm ?_ hdb)
  obtain ⟨g1, s1', rs1, q⟩ := h
  have q : Post p σ (AV ⟨X.K, lt⟩) (onMs (F []) s1') g1 H Q := q
  refine PySem.W.callWith_K0 I.kIn hk (call_of (run_G FO.ok hgd hr tk I (fun hl => ?_) .nil rs1 .nil (by rw [hps]; rfl) q))
  have := hb s [] I.kIn (by rw [List.append_nil]; exact hl)
  rwa [List.append_nil] at this
/-- f(e, .., k = v, ..) -/
theorem d_callK {o : List Nat} {nu : Nat} (FO : FnD X.prog X.w ⟨X.K, lt⟩ p.T X.mg X.base k f fd ps F) (hgd : X.A.guards = some []) (hr : Room k X.A) (tk : Takes X p.W) (hg : Gl X x) (hm : X.mg x = some (.ref f)) (hk : PySem.W.keepIn X.K (.ref f) = true) (hb : KB X.K fd ps ks nu o)
    (ha : PA X (e :: es) (tL p fl)) (hkw : PK X kws (tL p fk)) (hall : (backToKw pos (keywordEach kws X.env)).all (·.1.isSome) = true := by rfl) (hks : (backToKw pos (keywordEach kws X.env)).filterMap (·.1) = ks := by rfl)
    (hdb : (x == ("__debug__" : Str)) = false := by decide) (he : starEach (e :: es) X.env = (false, eval e X.env) :: starEach es X.env := by rfl)
    (hpl : ((backTo pos (starEach (e :: es) X.env)).any (·.1) || (backToKw pos (keywordEach kws X.env)).any (·.1.isNone)) = false := by rfl) :
    PE X (.Call (.Name x pf) (e :: es) kws pos) (tD p (callK nu ks.length o F fl fk)) := by
  refine ⟨fun pins s σ H Q I h => ?_⟩
  refine wpAny_Call_Name_kw (ld_glob I hg hm ?_ hdb)
  refine PySem.W.callWith_KW (h₀ := X.base) I.ok.mod.kin hk hall (thn (ha.run pos pins s σ H _ I (seqLL preV h)) fun us s1 ⟨vs, H1, I1, r, q1⟩ => ?_) hpl he
  refine thn (hkw.run pos pins s1 σ H1 _ I1 q1) fun ws s2 ⟨zs, H2, I2, rz, g2, s2', ds, es2, rs2, rv, rw', q2⟩ => ⟨I2.kIn, ?_⟩
  rw [hks]
  by_cases hc : ds.length = nu ∧ es2.length = ks.length
  · rw [if_pos hc] at q2
    have q2 : Post p σ (AV ⟨X.K, lt⟩) (onMs (F (ds ++ reord o es2)) s2') g2 H2 Q := q2
    have rd := rv.append (RVs.reord rw' o)
    have hlen : (vs ++ reord o zs).length = ps.length := by
      by_cases hz : (vs ++ reord o zs).length = ps.length
      · exact hz
      · unfold onMs at q2
        rw [FO.st _ _ (by rw [rd.length]; exact hz)] at q2
        exact q2.elim
    refine call_of (run_G FO.ok hgd hr tk I2 (fun _ => hb s2 us ws I2.kIn ?_ ?_) (r.append (vals_reord rz o)) rs2 rd hlen q2)
    · rw [← r.length, ← rv.length]; exact hc.1
    · rw [← rz.length, ← rw'.length]; exact hc.2
  · rw [if_neg hc] at q2
    exact q2.elim
/-- f(k = v, ..) -/
theorem d_callK0 {o : List Nat} (FO : FnD X.prog X.w ⟨X.K, lt⟩ p.T X.mg X.base k f fd ps F) (hgd : X.A.guards = some []) (hr : Room k X.A) (tk : Takes X p.W) (hg : Gl X x) (hm : X.mg x = some (.ref f)) (hk : PySem.W.keepIn X.K (.ref f) = true) (hb : KB X.K fd ps ks 0 o)
    (hkw : PK X kws (tL p fk)) (hall : (backToKw pos (keywordEach kws X.env)).all (·.1.isSome) = true := by rfl) (hks : (backToKw pos (keywordEach kws X.env)).filterMap (·.1) = ks := by rfl)
    (hdb : (x == ("__debug__" : Str)) = false := by decide)
    (hpl : ((backTo pos (starEach [] X.env)).any (·.1) || (backToKw pos (keywordEach kws X.env)).any (·.1.isNone)) = false := by rfl) :
    PE X (.Call (.Name x pf) [] kws pos) (tD p (callK 0 ks.length o F argN fk)) := by
  refine ⟨fun pins s σ H Q I h => ?_⟩
  refine wpAny_Call_Name_kw (ld_glob I hg hm ?_ hdb)
  have h : tD p (bnd fk fun es => if ([] : List D).length = 0 ∧ es.length = ks.length then onMs (F ([] ++ reord o es)) else stk) σ H Q := h
  refine PySem.W.callWith_KW0 (h₀ := X.base) I.ok.mod.kin hk hall (thn (hkw.run pos pins s σ H _ I (seqL preV h)) fun ws s2 ⟨zs, H2, I2, rz, g2, s2', es2, rs2, rw', q2⟩ => ⟨I2.kIn, ?_⟩) hpl
  rw [hks]
  by_cases hc : ([] : List D).length = 0 ∧ es2.length = ks.length
  · rw [if_pos hc] at q2
    have q2 : Post p σ (AV ⟨X.K, lt⟩) (onMs (F ([] ++ reord o es2)) s2') g2 H2 Q := q2
    have rd : RVs ⟨X.K, lt⟩ g2.F g2.φ ([] ++ reord o es2) ([] ++ reord o zs) := (RVs.reord rw' o)
    have hlen : ([] ++ reord o zs).length = ps.length := by
      by_cases hz : ([] ++ reord o zs).length = ps.length
      · exact hz
      · unfold onMs at q2
        rw [FO.st _ _ (by rw [rd.length]; exact hz)] at q2
        exact q2.elim
    refine call_of (run_G (us := [] ++ reord o ws) FO.ok hgd hr tk I2 (fun _ => hb s2 [] ws I2.kIn rfl ?_) (vals_reord rz o) rs2 rd hlen q2)
    rw [← rz.length, ← rw'.length]; exact hc.2
  · rw [if_neg hc] at q2
    exact q2.elim
/-- how keywords bind, from the text -/
theorem kb_mk {K : PySem.W.Frag} {x qual : Str} {st : Stmt} {f : Addr} {fd : FuncData} {ps ks : List Str} {nu : Nat} {o : List Nat} (F : Fun K x qual st f fd)
    (h : ∀ (kV doc pm : Value) (an : Option Addr) (cdv ct : Value) (us ws : List Value), us.length = nu → ws.length = ks.length → bindArgs (PySem.W.fnOf x qual (defArgs st) (defBody st) (defScope st) .none kV doc pm an cdv ct) ⟨us, ks.zip ws⟩ = pure (ps.zip (us ++ reord o ws))) : KB K fd ps ks nu o := by
  obtain ⟨oc, od, kV, doc, pm, an, cdv, ct, osl, rfl, lk, hcd⟩ := F.ex
  exact fun s us ws _ h1 h2 => .of_eq (h kV doc pm an cdv ct us ws h1 h2)
end
end Mp

set_option Elab.async false
set_option linter.all false
set_option maxRecDepth 100000
set_option maxHeartbeats 4000000
namespace Mp
open PySem PySem.Spec L2
open PyProof.Rows hiding St

/-! ### the law's own call -/
theorem SqL.off {K : PySem.W.Frag} {H : Hp} {a : Addr} {vs : List V} {ts : List Addr} (h : SqL K H a vs) (n : a ∉ ts) : SqL K (fun b => if b ∈ ts then none else H b) a vs := by
  rcases h with (h | ⟨o, h⟩) | h
  · exact .inl (.inl (by show (if a ∈ ts then none else H a) = _; rw [if_neg n]; exact h))
  · exact .inl (.inr ⟨o, by show (if a ∈ ts then none else H a) = _; rw [if_neg n]; exact h⟩)
  · exact .inr h
/-- what is tracked at the law's entry: the script (unless it is one of the text's own objects), the tables of code objects, still empty -/
def Hinit (K : PySem.W.Frag) (a : Addr) (o : Obj) (ns : List Int) (ts : List Addr) : Hp := fun b =>
  if b ∈ ts then some (.tbl #[]) else if b = a ∧ K.lookup a = none then some (.frz o (.lst (ns.map V.int))) else none
def trivB (K : Kx) : Bg K := ⟨fun _ _ _ => True, fun _ _ _ => trivial⟩
theorem RVs.ints {K : Kx} {F : Hp} {φ : List Addr} : ∀ ns : List Int, RVs K F φ (ns.map D.int) (ns.map V.int)
  | [] => .nil
  | n :: ns => .cons (.int n) (RVs.ints ns)
theorem law_G {P : Program} {w : World} {K : Kx} {T : List (Addr × Str)} {mg mb : Str → Option Value} {k : Nat} {fa a : Addr} {cs : List (Addr × Addr)} {fd : FuncData} {x : Str} {Fm : List D → M D} {s₁ : Shared} {vs : List Value} {ns : List Int}
    (KX : K.K.In s₁.heap) (hns : s₁.heap.Ns mainGlobals mg) (hb : s₁.heap.Ns builtinsNs mb) (hbb : ∀ x : Str, x ≠ "__name__" → mb x = bootBuiltins x) (hlim : s₁.heap.NoLimit) (hg : s₁.gens = #[])
    (hT : ∀ p ∈ cs, s₁.heap.get? p.2 = some { cls := .none, data := .fields #[] }) (nT : ∀ p ∈ cs, K.K.lookup p.2 = none) (C : ∀ p ∈ cs, PySem.W.CodeHd s₁.heap p.1 p.2) (hTT : ∀ p ∈ T, p.1 ∈ cs.map (·.2))
    (hbm : ∃ (bm : Addr) (ob : Obj), mg "__builtins__" = some (.ref bm) ∧ bm ≠ builtinsNs ∧ s₁.heap.get? bm = some ob ∧ ob.cls = .type "module" ∧ ob.dict = some builtinsNs ∧ ob.data = .plain)
    (ha : s₁.heap.get? a = some { cls := .type "list", data := .seq vs.toArray }) (hi : IntsAre vs ns) (hl : ns.length ≤ sizeLine) (hr : Room k callerA) (hgd : callerA.guards = some [])
    (F : ∀ base : Heap, K.K.In base → base.Ns mainGlobals mg → (∀ p ∈ cs, LamX.TabB base mg p.1 p.2) → FnD P w K T mg base k fa fd [x] Fm) (hbind : ∀ (s : Shared) (u : Value), BindsTo s fd ⟨[u], []⟩ [(x, u)])
    (hsp : ∃ s', Fm [.scr (ns.map .int)] ⟨[], []⟩ = .ok (.bl true) s') :
    codeAny (model P w) callerA (.call (.ref fa) ⟨[.ref a], []⟩) (fun r s' => r = .ok (.ret (.bool true)) ∧ OldK s₁.heap s'.heap ∧ s'.os = s₁.os ∧ AllBare s'.gens) s₁ := by
  have rv : Vals (ns.map V.int) vs := vals_ints hi
  obtain ⟨H, hH⟩ : ∃ H, H = Hinit K.K a { cls := .type "list", data := .seq vs.toArray } ns (cs.map (·.2)) := ⟨_, rfl⟩
  have tabOf : ∀ {b : Addr}, b ∈ cs.map (·.2) → H b = some (.tbl #[]) ∧ s₁.heap.get? b = some { cls := .none, data := .fields #[] } := fun {b} h => by
    obtain ⟨p, hp, e⟩ := List.mem_map.mp h
    refine ⟨by rw [hH]; exact if_pos h, ?_⟩
    rw [← e]
    exact hT p hp
  have notTab : ∀ {b : Addr} {o : Obj}, s₁.heap.get? b = some o → o.data ≠ .fields #[] → b ∉ cs.map (·.2) := fun {b o} e d h => by
    have := (tabOf h).2
    rw [e] at this
    cases this
    exact d rfl
  have aT : a ∉ cs.map (·.2) := notTab ha (fun z => by cases z)
  have offA : ∀ {b : Addr}, b ∉ cs.map (·.2) → b ≠ a → H b = none := fun {b} h1 h2 => by
    rw [hH]
    unfold Hinit
    rw [if_neg h1, if_neg (fun z => h2 z.1)]
  have seqA : SqL K.K H a (ns.map V.int) := by
    cases hk : K.K.lookup a with
    | some o =>
      have e := KX a o hk
      rw [ha] at e
      cases e
      exact .inr ⟨_, vs.toArray, _, hk, rfl, rfl, rfl, by rw [List.size_toArray, ← rv.length, List.length_map]; exact hl, by simpa using rv⟩
    | none =>
      refine .inl (.inr ⟨{ cls := .type "list", data := .seq vs.toArray }, ?_⟩)
      rw [hH]
      unfold Hinit
      rw [if_neg aT, if_pos ⟨rfl, hk⟩]
  have hok : HOk P w H s₁.heap := fun b u z => by
    by_cases h1 : b ∈ cs.map (·.2)
    · obtain ⟨e1, e2⟩ := tabOf h1
      rw [e1] at z
      cases z
      exact e2
    · rw [hH] at z
      unfold Hinit at z
      rw [if_neg h1] at z
      by_cases h2 : b = a ∧ K.K.lookup a = none
      · rw [if_pos h2] at z
        cases z
        rw [h2.1]
        exact ⟨ha, by rw [List.length_map]; exact hl, vs, _, rv, ha⟩
      · rw [if_neg h2] at z
        cases z
  -- what isn't the script nor a table isn't tracked
  have free : ∀ {b : Addr} {o : Obj}, s₁.heap.get? b = some o → (∀ vs n, o.data ≠ .seq vs n) → o.data ≠ .fields #[] → H b = none := fun {b o} e h1 h2 =>
    offA (notTab e h2) fun z => by
      rw [z, ha] at e
      cases e
      exact h1 _ _ rfl
  have dictFree : ∀ {b : Addr} {o : Obj} {es : Array DictEntry} {ep : Nat}, s₁.heap.get? b = some o → o.data = .dict es ep → H b = none := fun {b o es ep} e d => free e (fun vs n z => by rw [d] at z; cases z) fun z => by rw [d] at z; cases z
  have nsK : ∀ {b : Addr} {m : Str → Option Value}, s₁.heap.Ns b m → (hidT s₁.heap H).Ns b m := fun {b m} ⟨o, es, ep, e, d, r⟩ => ⟨o, es, ep, hidT_get e (dictFree e d), d, r⟩
  have hKb : K.K.In (hidT s₁.heap H) := fun b o e => hidT_get (KX b o e) (by
    by_cases h1 : b ∈ cs.map (·.2)
    · obtain ⟨p, hp, ep⟩ := List.mem_map.mp h1
      rw [← ep, nT p hp] at e
      cases e
    · rw [hH]
      unfold Hinit
      rw [if_neg h1, if_neg fun z => by rw [z.1, z.2] at e; cases e])
  have TB : ∀ p ∈ cs, LamX.TabB (hidT s₁.heap H) mg p.1 p.2 := fun p hp => by
    have hTp := hT p hp
    obtain ⟨og, eg, epg, hgo, hgd', _⟩ := id hns
    refine ⟨?_, ?_, fun z => ?_⟩
    · obtain ⟨o, us, file, tf, flags, tg, inF, text, tt, e1, r1, r2, r3, r4⟩ := C p hp
      exact ⟨o, us, file, tf, flags, tg, inF, text, tt, hidT_get e1 (free e1 (fun vs n z => by rw [r2] at z; cases z) fun z => by
        rw [r2] at z
        cases z
        simp at r3), r1, r2, r3, r4⟩
    · obtain ⟨bm, ob, b1, b2, b3, b4, b5, b6⟩ := hbm
      refine ⟨bm, ob, b1, b2, fun q => ?_, fun q => ?_, hidT_get b3 (free b3 (fun vs n z => by rw [b6] at z; cases z) fun z => by rw [b6] at z; cases z), b4, b5, b6⟩
      · rw [q, hgo] at b3
        cases b3
        rw [hgd'] at b6
        cases b6
      · rw [q, hTp] at b3
        cases b3
        cases b6
    · rw [z, hTp] at hgo
      cases hgo
      cases hgd'
  have e0 : Env0 P w K.K mg (hidT s₁.heap H) callerA [] s₁ H := ⟨rfl, ⟨hKb, nsK hns, ⟨mb, nsK hb, hbb⟩, let ⟨mc, h1, h2⟩ := hlim; ⟨mc, nsK h1, h2⟩⟩, fun b o e => of_hidT e, Nat.le_of_eq (hidT_size _ _), trivial, fun b hb => absurd (show b ∈ ([] : List Addr) from hb) (by simp), hok, .of_eq hg⟩
  obtain ⟨s', hs'⟩ := hsp
  have prom : spD K T 1 Fm [.ref a] H (fun v _ => v = .bl true) fun _ _ _ => False := by
    refine ⟨rfl, trivB K, ⟨fun b => if b ∈ cs.map (·.2) then none else H b, [], fun _ => none⟩, [], [.scr (ns.map .int)], fun _ => rfl, ⟨fun b o h => by
      have h : (if b ∈ cs.map (·.2) then none else H b) = some o := h
      split at h
      · cases h
      · exact h, rfl, fun n b ds h => by simp at h, List.nodup_nil, fun b ps h => by
      have h : (if b ∈ cs.map (·.2) then none else H b) = some (.tbl ps) := h
      split at h
      · cases h
      · rename_i nb
        rw [hH] at h
        unfold Hinit at h
        rw [if_neg nb] at h
        split at h <;> cases h⟩, fun p hp => LamX.TabS.nil (tabOf (hTT p hp)).1, trivial, .cons (.scr (SqL.off seqA aT) (RVs.ints ns)) .nil, ?_⟩
    rw [hs']
    intro v H' g' _ _ _ _ r
    cases r
    rfl
  refine codeAny_mono ((F _ hKb (nsK hns) TB).ok.run callerA [] s₁ H ⟨[.ref a], []⟩ [.ref a] [.ref a] _ _ hgd hr e0 (hbind s₁ (.ref a)) (.cons rfl .nil) prom) fun r s' h => ?_
  cases r with
  | error e =>
    obtain ⟨_, _, _, _, _, _, _, _, _, _, _, _, z⟩ := h
    exact z.elim
  | ok fl =>
    cases fl with
    | next => exact False.elim h
    | brk => exact False.elim h
    | cont => exact False.elim h
    | ret u =>
      obtain ⟨v, H', os, bare, un, hok', r', q⟩ := h
      have q' : v = .bl true := q
      subst q'
      obtain rfl : u = Value.bool true := r'
      have key : ∀ b o, b ∉ cs.map (·.2) → s₁.heap.get? b = some o → s'.heap.get? b = some o := fun b o nb e => by
        cases q : H b with
        | none => exact un.keep b o e q (by intro z; exact absurd (show b ∈ ([] : List Addr) from z) (by simp)) (by simp)
        | some u =>
          rw [hH] at q
          unfold Hinit at q
          rw [if_neg nb] at q
          by_cases h2 : b = a ∧ K.K.lookup a = none
          · have z : H b = some (.frz { cls := .type "list", data := .seq vs.toArray } (.lst (ns.map V.int))) := by
              rw [hH]
              unfold Hinit
              rw [if_neg nb, if_pos h2]
            obtain ⟨e1, _⟩ := hok b _ z
            obtain ⟨e2, _⟩ := hok' b _ (un.frzs b _ _ z)
            rw [e] at e1
            cases e1
            exact e2
          · rw [if_neg h2] at q
            cases q
      have grown : ∀ p ∈ cs, ∃ more : Array Value, s'.heap.get? p.2 = some { cls := .none, data := .fields more } := fun p hp => by
        obtain ⟨more, z⟩ := un.tbls p.2 #[] (tabOf (List.mem_map.mpr ⟨p, hp, rfl⟩)).1
        exact ⟨_, hok' p.2 _ z⟩
      refine ⟨rfl, ⟨fun b o e => ?_, fun b o e => ?_⟩, os, bare⟩
      · by_cases hb : b ∈ cs.map (·.2)
        · obtain ⟨p, hp, ep⟩ := List.mem_map.mp hb
          obtain ⟨more, hm⟩ := grown p hp
          rw [← ep] at e ⊢
          rw [hT p hp] at e
          cases e
          exact .inr (.inl ⟨((C p hp).tab (hT p hp)).isCodeTable, rfl, #[], more, rfl, by rw [Array.empty_append]; exact hm⟩)
        · exact .inl (key b o hb e)
      · by_cases hb : b ∈ cs.map (·.2)
        · obtain ⟨p, hp, ep⟩ := List.mem_map.mp hb
          obtain ⟨more, hm⟩ := grown p hp
          rw [← ep]
          exact ⟨_, hm⟩
        · exact ⟨o, key b o hb e⟩
/-- what is known of the law at the head's heap h -/
def LawG (l : PySem.W.OpenLaw) (w : World) (K : PySem.W.Frag) (k n : Nat) (x : Str) (mg : Str → Option Value) (fa : Addr) (h : Heap) : Prop :=
  ∃ (fd : FuncData) (cs : List (Addr × Addr)) (lt : Nat → LamI) (T : List (Addr × Str)) (Fm : List D → M D), (∀ p ∈ cs, h.get? p.2 = some { cls := .none, data := .fields #[] }) ∧ (∀ p ∈ cs, K.lookup p.2 = none) ∧ (∀ p ∈ cs, PySem.W.CodeHd h p.1 p.2) ∧ (∀ p ∈ T, p.1 ∈ cs.map (·.2)) ∧ (∀ (s : Shared) (u : Value), BindsTo s fd ⟨[u], []⟩ [(x, u)]) ∧
    (∀ ns : List Int, ns.length ≤ n → (∀ z ∈ ns, Builtin.Int.intBits z ≤ 1048576) → ∃ s', Fm [.scr (ns.map .int)] ⟨[], []⟩ = .ok (.bl true) s') ∧
    ∀ base : Heap, K.In base → base.Ns mainGlobals mg → (∀ p ∈ cs, LamX.TabB base mg p.1 p.2) → FnD l.prog w ⟨K, lt⟩ T mg base k fa fd [x] Fm
theorem walk_G {l : PySem.W.OpenLaw} {n k : Nat} {q : Program} {loose : List Str} {XP : (Str → Option Value) → Heap → Prop} {YP : World → Heap → Prop} {d : DefRec} {K : Params → PySem.W.Frag} {x : Str}
    (hn : l.most = some n) (hn2 : n ≤ sizeLine) (hdf : d.params.defaults = []) (hr : Room k callerA) (hgd : callerA.guards = some []) (hY : ∀ (w : World) (h : Heap), YP w h → (K w.params).In h)
    (F : ∀ (w : World) (mg : Str → Option Value) (fa : Addr) (h : Heap), YP w h → (K w.params).In h → h.Ns mainGlobals mg → mg d.name = some (.ref fa) → LawG l w (K w.params) k n x mg fa h) :
    PySem.W.WalkO q loose XP YP l.row.toRowW d [] (fun f vs => PySem.call f vs) := by
  refine Att.attach_callB hn hdf fun w s₀ s₁ mg mb fa o pm cd doc a vs ns G Y ho hd hcd hmg hobj hints hlen hbits hg => ?_
  have KX := hY w _ Y
  obtain ⟨fd, cs, lt, T, Fm, hT, nT, C, hTT, hb, hsp, hF⟩ := F w mg fa _ Y KX G.T.g hmg
  exact law_G (K := ⟨K w.params, lt⟩) KX G.T.g G.T.b G.T.builtins G.T.nolimit hg hT nT C hTT G.T.bmain hobj hints (Nat.le_trans hlen hn2) hr hgd hF hb (hsp ns hlen hbits)
theorem callerA_guards : callerA.guards = some [] := by rfl
end Mp

set_option Elab.async false
set_option linter.all false
set_option maxRecDepth 100000
set_option maxHeartbeats 4000000
namespace Mp
open PySem PySem.Spec L2
open PyProof.Rows hiding St

/-! ### t[::-1] of a tuple -/
section
variable {prog : Program} {w : World} {A : Around} {E : Value → Shared → Prop} {s : Shared}
theorem adjust_rev (n : Nat) : Builtin.Slice.sliceAdjust none none (-1) (n : Int) = ((n : Int) - 1, -1) := rfl
theorem places_rev (n : Nat) : Builtin.Slice.slicePlaces ((n : Int) - 1) (-1) (-1) = n := by
  unfold Builtin.Slice.slicePlaces
  have h1 : ¬ ((-1 : Int) > 0) := by omega
  simp only [h1, if_false]
  by_cases h : ((n : Int) - 1) > -1
  · simp only [if_pos h]
    have : ((n : Int) - 1 - -1 - 1) / (- -1) = (n : Int) - 1 := by
      rw [show (- -1 : Int) = 1 by decide, Int.ediv_one]
      omega
    rw [this]
    omega
  · simp only [if_neg h]
    omega
theorem pick_rev (xs : Array Value) : ((List.range xs.size).filterMap fun (k : Nat) => xs[(((xs.size : Int) - 1) + (k : Int) * (-1)).toNat]?).toArray = xs.toList.reverse.toArray := by
  have e : ((List.range xs.size).filterMap fun (k : Nat) => xs[(((xs.size : Int) - 1) + (k : Int) * (-1)).toNat]?) = ((List.range xs.size).map fun k => xs.size - 1 - k).filterMap (xs[·]?) := by
    rw [List.filterMap_map]
    congr 1
    funext k
    have : (((xs.size : Int) - 1) + (k : Int) * (-1)).toNat = xs.size - 1 - k := by omega
    rw [this]
    rfl
  rw [e, PySem.W.krv_range, List.filterMap_reverse, PySem.W.krv_all]
theorem getItem_tuple_rev {t sl : Addr} {items : Array Value} {u : Tok} {Q : Value → Shared → Prop} (ht : IsTup s.heap t items) (hs : s.heap.IsSliceOf sl .none .none (.int (-1) u))
    (h : Q (.ref s.heap.objs.size) { s with heap := s.heap.push { cls := .type "tuple", data := .seq items.toList.reverse.toArray } }) (hsz : items.size ≤ sizeLine) : wpAny (model prog w) A (getItem (.ref t) (.ref sl)) Q E s := by
  have hok : sizeOk (.seq items.toList.reverse.toArray) := by
    show items.toList.reverse.toArray.size ≤ sizeLine
    rw [List.size_toArray, List.length_reverse, Array.length_toList]
    exact hsz
  obtain ⟨os, hos, hcs, hds⟩ := id hs
  have hTs : s.TypeIs (.ref sl) "slice" := ⟨os, hos, hcs⟩
  unfold getItem
  try with_reducible refine wpAny_holding ?_
  first | refine wpAny_bind (wpAny_pure ?_) | skip
  refine wpAny_bind (wpAny_sequenceKey ht.typeIs (by decide) ?_)
  refine wpAny_bind (wpAny_callSpecial?_slot (name := Str.ofString "__getitem__") ht.typeIs PyProof.Rows.slot_tuple_getitem
    (wpAny_call_entry PyProof.Rows.slot_tuple_getitem ht.typeIs entry_tuple_getitem ?_ (args_tuple_getitem _ _)))
  show wpAny _ _ (Builtin.Tuple.tupleItemsOf (.ref t) >>= _) _ _ s
  refine wpAny_bind (PyProof.Rows.tupleItemsOf_ ht ?_)
  refine wpAny_bind (wpAny_typeOf hTs ?_)
  rw [if_pos (by decide)]
  refine wpAny_bind ?_
  unfold Builtin.Slice.sliceApplied Builtin.Slice.sliceFields
  refine wpAny_bind (wpAny_bind (wpAny_field hos hds (x := .none) rfl (wpAny_bind (wpAny_field hos hds (x := .none) rfl (wpAny_bind (wpAny_field hos hds (x := .int (-1) u) rfl (wpAny_pure ?_)))))))
  refine wpAny_bind (HT.slicePart_ (.int (-1) u) ?_)
  show wpAny _ _ (if ((-1 : Int) == 0) = true then _ else _) _ _ s
  rw [if_neg (by decide)]
  refine wpAny_bind (HT.slicePart_ .none (wpAny_bind (HT.slicePart_ .none (wpAny_bind (wpAny_pure ?_)))))
  show wpAny _ _ (match Builtin.Slice.sliceAdjust none none (-1) (items.size : Int) with | (lo, hi) => pure (lo, (-1 : Int), Builtin.Slice.slicePlaces lo hi (-1))) _ _ s
  rw [adjust_rev]
  show wpAny _ _ (pure ((items.size : Int) - 1, (-1 : Int), Builtin.Slice.slicePlaces ((items.size : Int) - 1) (-1) (-1))) _ _ s
  rw [places_rev]
  refine wpAny_pure ?_
  show wpAny _ _ (if (((items.size : Int) - 1) == 0 && (-1 : Int) == 1 && items.size == items.size) = true then _ else _) _ _ s
  rw [if_neg (by rw [show ((-1 : Int) == 1) = false by decide, Bool.and_false, Bool.false_and]; exact Bool.false_ne_true), pick_rev]
  first
    | exact wpAny_bind (m := Builtin.Tuple.tupleExact _) (wpAny_newObj_type (wpAny_pure ⟨_, rfl, wpAny_pure h⟩) hok)
    | exact wpAny_bind (m := Builtin.Tuple.tupleExact _) (wpAny_newObj_type (wpAny_bind (wpAny_pure (wpAny_pure ⟨_, rfl, wpAny_pure h⟩))) hok)
    | exact wpAny_bind (wpAny_bind (m := Builtin.Tuple.tupleExact _) (wpAny_newObj_type (wpAny_pure (wpAny_pure ⟨_, rfl, wpAny_pure h⟩)) hok))
    | exact wpAny_bind (wpAny_bind (m := Builtin.Tuple.tupleExact _) (wpAny_newObj_type (wpAny_pure ⟨_, rfl, wpAny_pure h⟩) hok))
end
section
variable {X : Cx} {lt : Nat → LamI} {p : Pm ⟨X.K, lt⟩} {e a b c : Expr} {es : List Expr} {pos : Pos} {fa fb fc : M D} {fl : M (List D)}
/-- xs[::-1] of a list or a tuple -/
def revO (x : D) : Option D := match x with
  | .lst xs => some (.lst xs.reverse)
  | .tup xs => some (.tup xs.reverse)
  | _ => none
def revA (f : M D) : M D := bnd f fun x => lift (revO x)
theorem d_revA {k : Nat} {p1 p2 p3 : Pos} (ha : PE X a (tP p fa)) : PE X (.Subscript a (.Slice none none (some (.UnaryOp .USub (.Constant (.int 1) k p1) p2)) p3) pos) (tD p (revA fa)) := by
  refine ⟨fun pins s σ H Q I h => ?_⟩
  refine Subscript_ (thn (ha.run pins s σ H _ I (seqP preV h)) fun v s1 ⟨x, H1, I1, r1, g1, s1', d, rs1, rv, q1⟩ => ?_)
  obtain ⟨z, hz, q2⟩ := liftP q1
  have hst : PO X (some (.UnaryOp .USub (.Constant (.int 1) k p1) p2)) (tPart (tUn (rU fun i => .int (-i)) (tC (.int 1)))) := po_some (pe_un un_neg pe_int)
  refine wpAny_Slice (thn (po_none.run pins s1 σ H1 (fun o H2 => o = none ∧ H2 = H1) I1 ⟨rfl, rfl⟩) fun vl s2 ⟨l, H2, I2, pl, el, e2⟩ => ?_)
  subst el e2
  refine thn (po_none.run pins s2 σ H2 (fun o H3 => o = none ∧ H3 = H2) I2 ⟨rfl, rfl⟩) fun vu s3 ⟨u, H3, I3, pu, eu, e3⟩ => ?_
  subst eu e3
  refine thn (hst.run pins s3 σ H3 (fun o H4 => o = some (-1) ∧ H4 = H3) I3 ⟨1, rfl, -1, rfl, rfl, rfl⟩) fun vs s4 ⟨o, H4, I4, ps, eo, e4⟩ => ?_
  subst eo e4
  have I5 : Inv X pins σ H4 { s4 with heap := s4.heap.push { cls := .type "slice", data := .fields #[vl, vu, vs] } } := I4.kept (t' := s4.toks) fun b ob q => Heap.get?_push_of_some _ q
  unfold revO at hz
  split at hz
  · cases hz
    obtain ⟨ad, us, rfl, h1, h2⟩ := rv.lst rs1.m
    cases r1
    obtain ⟨its, r, ht, hzz⟩ := I5.list (SqL.of h1)
    have hlen := r.length
    show wpAny (model X.prog X.w) X.A (subscriptTail a (.Slice none none (some (.UnaryOp .USub (.Constant (.int 1) k p1) p2)) p3) (.ref ad) (.ref s4.heap.objs.size)) (EP X pins σ Q) X.xe { s4 with heap := s4.heap.push { cls := .type "slice", data := .fields #[vl, vu, vs] } }
    refine tail_any (ops := [.ref ad, .ref s4.heap.objs.size]) ht.isList.typeIs (PySem.slot_list_getitem.lookup) ?_ (by with_unfolding_all rfl)
    refine wpAny_getItem_list_slice ht.isList (Heap.IsSliceOf.new _ vl vu vs) pl pu ps (by decide) ?_ (by rw [List.size_toArray]; omega)
    rw [PySem.W.krv_pick]
    refine ⟨.ref _, _, I5.laid (t' := s4.toks) (o := .lst us.reverse) (fun b ob q => Heap.get?_push_of_some _ q) (Nat.le_refl _) ⟨by rw [List.length_reverse]; exact hzz, _, 0, r.reverse, Heap.get?_push_size _ rfl⟩, rfl, ?_⟩
    have hq := I5.hok.fresh (Nat.le_refl (s4.heap.push { cls := .type "slice", data := .fields #[vl, vu, vs] }).objs.size)
    exact q2 _ _ _ (rs1.add hq _) (rs1.addE hq _) (.lst G.add_same (RVs.up (rs1.m.addUp hq _) ⟨[], by simp [G.add]⟩ _ _ h2.reverse))
  · cases hz
    obtain ⟨ad, us, rfl, h1, h2⟩ := rv.tup rs1.m
    cases r1
    obtain ⟨its, r, ht, hzz⟩ := I5.tuple h1
    have hlen := r.length
    obtain ⟨tk, rfl⟩ : ∃ u, vs = Value.int (-1) u := by
      cases ps with
      | int i t => exact ⟨t, rfl⟩
    cases pl
    cases pu
    show wpAny (model X.prog X.w) X.A (subscriptTail a (.Slice none none (some (.UnaryOp .USub (.Constant (.int 1) k p1) p2)) p3) (.ref ad) (.ref s4.heap.objs.size)) (EP X pins σ Q) X.xe { s4 with heap := s4.heap.push { cls := .type "slice", data := .fields #[.none, .none, .int (-1) tk] } }
    refine tail_any (ops := [.ref ad, .ref s4.heap.objs.size]) ht.typeIs (PyProof.Rows.slot_tuple_getitem.lookup) ?_ (by with_unfolding_all rfl)
    refine getItem_tuple_rev (u := tk) ht (Heap.IsSliceOf.new _ _ _ _) ?_ (by rw [List.size_toArray]; omega)
    refine ⟨.ref _, _, I5.laid (t' := s4.toks) (o := .tup us.reverse) (fun b ob q => Heap.get?_push_of_some _ q) (Nat.le_refl _) ⟨by rw [List.length_reverse]; exact hzz, its.reverse, r.reverse, ⟨_, Heap.get?_push_size _ rfl, rfl, 0, by simp⟩⟩, rfl, ?_⟩
    have hq := I5.hok.fresh (Nat.le_refl (s4.heap.push { cls := .type "slice", data := .fields #[.none, .none, .int (-1) tk] }).objs.size)
    exact q2 _ _ _ (rs1.add hq _) (rs1.addE hq _) (.tup (.inl (.inl G.add_same)) (RVs.up (rs1.m.addUp hq _) ⟨[], by simp [G.add]⟩ _ _ h2.reverse))
  · cases hz
/-! ### list + list, list * int: one rule with the others -/
def catO : O2 := fun x y s => match x, y with
  | .lst xs, .lst ys => if xs.length + ys.length ≤ 100000 then some (.lst (xs ++ ys)) else none
  | x, y => addO x y s
def repO : O2 := fun x y s => match x, y with
  | .lst xs, .int k => if -(2 ^ 63) ≤ k ∧ k < 2 ^ 63 ∧ xs.length * k.toNat ≤ 100000 then some (.lst (List.replicate k.toNat xs).flatten) else none
  | x, y => mulO x y s
theorem o_cat : OpR X (binaryOp .Add) (rO2 p catO) := by
  intro pins s σ H x y v u Q I rx ry h
  obtain ⟨σ', g, s', d, e, z, r, a1, a2, ho, f⟩ := id h
  unfold catO at ho
  split at ho
  · split at ho
    · cases ho
      obtain ⟨a, vs, rfl, h1, h2⟩ := a1.lst r.m
      obtain ⟨b, ws, rfl, h3, h4⟩ := a2.lst r.m
      have l1 := h2.length
      have l2 := h4.length
      exact op_cat pins s σ H _ _ v u Q I rx ry ⟨a, b, vs, ws, rfl, rfl, h1, h3, szL (by omega), fun q hq => f.lst r (h2.append h4) hq⟩
    · cases ho
  · exact o_add pins s σ H x y v u Q I rx ry ⟨σ', g, s', d, e, z, r, a1, a2, ho, f⟩
theorem o_rep : OpR X (binaryOp .Mult) (rO2 p repO) := by
  intro pins s σ H x y v u Q I rx ry h
  obtain ⟨σ', g, s', d, e, z, r, a1, a2, ho, f⟩ := id h
  unfold repO at ho
  split at ho
  · split at ho
    · rename_i hc
      cases ho
      obtain ⟨a, vs, rfl, h1, h2⟩ := a1.lst r.m
      cases a2.int
      have l1 := h2.length
      exact op_rep pins s σ H _ _ v u Q I rx ry ⟨a, _, vs, rfl, rfl, h1, hc.1, hc.2.1, szL (by rw [← l1]; exact hc.2.2), fun q hq => f.lst r (h2.rep _) hq⟩
    · cases ho
  · exact o_mul pins s σ H x y v u Q I rx ry ⟨σ', g, s', d, e, z, r, a1, a2, ho, f⟩
/-- {} -/
theorem d_dct : PE X (.Dict [] [] pos) (tD p (ret .dct)) := pe_dnewK.imp fun σ H Q ⟨g, s, r, q⟩ o ho => q _ _ _ (r.add ho (.dK [])) (r.addE ho _) (.dct G.add_same)
end
end Mp

set_option Elab.async false
set_option linter.all false
set_option maxRecDepth 100000
set_option maxHeartbeats 4000000
/-! the rules in short, with the facts about the text left to the kernel -/
namespace Mp
open PySem PySem.Spec L2
open PyProof.Rows hiding St

theorem bb_len : bootBuiltins "len" = some (.builtin "len") := by decide +kernel
theorem bb_abs : bootBuiltins "abs" = some (.builtin "abs") := by decide +kernel
theorem bb_max : bootBuiltins "max" = some (.builtin "max") := by decide +kernel
theorem bb_min : bootBuiltins "min" = some (.builtin "min") := by decide +kernel
theorem bb_divmod : bootBuiltins "divmod" = some (.builtin "divmod") := by decide +kernel
theorem bb_all : bootBuiltins "all" = some (.builtin "all") := by decide +kernel
theorem bb_any : bootBuiltins "any" = some (.builtin "any") := by decide +kernel
theorem bb_repr : bootBuiltins "repr" = some (.builtin "repr") := by decide +kernel
theorem bb_int : bootBuiltins "int" = some (.type "int") := by decide +kernel
theorem bb_bool : bootBuiltins "bool" = some (.type "bool") := by decide +kernel
theorem bb_str : bootBuiltins "str" = some (.type "str") := by decide +kernel
theorem bb_tuple : bootBuiltins "tuple" = some (.type "tuple") := by decide +kernel
theorem bb_list : bootBuiltins "list" = some (.type "list") := by decide +kernel
theorem bb_dict : bootBuiltins "dict" = some (.type "dict") := by decide +kernel
section
variable {X : Cx} {lt : Nat → LamI} {p : Pm ⟨X.K, lt⟩} {e a b c tg iter elt : Expr} {es : List Expr} {pos pf px pa : Pos} {fa fb fc fe : M D} {fl fi : M (List D)} {ba bb : M Bool} {body st1 st2 : List Stmt} {f1 f2 : M Fl} {t : Tgt}
/-- a local; a cell; a name from around -/
theorem v (i : Nat) {x : Str} (hN : X.N[i]? = some x := by kernel_rfl) (hv : X.env.scope.names.lookup x = some .local := by kernel_rfl) (hd : (x == ("__debug__" : Str)) = false := by kernel_rfl) (hcd : (x == ("__classdict__" : Str)) = false := by kernel_rfl) : PE X (.Name x pos) (tD p (getv i)) := d_var hN (.inl hv) hd hcd
theorem vc (i : Nat) {x : Str} (hN : X.N[i]? = some x := by kernel_rfl) (hv : X.env.scope.names.lookup x = some .cell := by kernel_rfl) (hd : (x == ("__debug__" : Str)) = false := by kernel_rfl) (hcd : (x == ("__classdict__" : Str)) = false := by kernel_rfl) : PE X (.Name x pos) (tD p (getv i)) := d_var hN (.inr (.inl hv)) hd hcd
theorem vf (i : Nat) {x : Str} (hN : X.N[i]? = some x := by kernel_rfl) (hv : X.env.scope.names.lookup x = some .free := by kernel_rfl) (hd : (x == ("__debug__" : Str)) = false := by kernel_rfl) (hcd : (x == ("__classdict__" : Str)) = false := by kernel_rfl) : PE X (.Name x pos) (tD p (getv i)) := d_var hN (.inr (.inr hv)) hd hcd
theorem u (i : Nat) {x : Str} (hN : X.N[i]? = some x := by kernel_rfl) (hv : X.env.scope.names.lookup x = some .local := by kernel_rfl) (hd : (x == ("__debug__" : Str)) = false := by kernel_rfl) (hcd : (x == ("__classdict__" : Str)) = false := by kernel_rfl) : PE X (.Name x pos) (tP p (peekv i)) := p_var hN (.inl hv) hd hcd
theorem uc (i : Nat) {x : Str} (hN : X.N[i]? = some x := by kernel_rfl) (hv : X.env.scope.names.lookup x = some .cell := by kernel_rfl) (hd : (x == ("__debug__" : Str)) = false := by kernel_rfl) (hcd : (x == ("__classdict__" : Str)) = false := by kernel_rfl) : PE X (.Name x pos) (tP p (peekv i)) := p_var hN (.inr (.inl hv)) hd hcd
theorem uf (i : Nat) {x : Str} (hN : X.N[i]? = some x := by kernel_rfl) (hv : X.env.scope.names.lookup x = some .free := by kernel_rfl) (hd : (x == ("__debug__" : Str)) = false := by kernel_rfl) (hcd : (x == ("__classdict__" : Str)) = false := by kernel_rfl) : PE X (.Name x pos) (tP p (peekv i)) := p_var hN (.inr (.inr hv)) hd hcd
/-- a module's int, text, tuple of ints -/
theorem gint {x : Str} {i : Int} (hm : ∃ t, X.mg x = some (.int i t)) (hg : X.env.kindOf x = some .globalImplicit := by kernel_rfl) (hd : (x == ("__debug__" : Str)) = false := by kernel_rfl) : PE X (.Name x pos) (tD p (ret (.int i))) := by
  obtain ⟨t, h⟩ := hm
  exact d_glob hg h (v := .int i) ⟨t, rfl⟩ (fun _ _ => .int i) hd
theorem gstr {x : Str} {i : Str} (hm : ∃ t, X.mg x = some (.str i t)) (hg : X.env.kindOf x = some .globalImplicit := by kernel_rfl) (hd : (x == ("__debug__" : Str)) = false := by kernel_rfl) : PE X (.Name x pos) (tD p (ret (.str i))) := by
  obtain ⟨t, h⟩ := hm
  exact d_glob hg h (v := .str i) ⟨t, rfl⟩ (fun _ _ => .str i) hd
/-- a module's own tuple -/
def GTup (K : PySem.W.Frag) (mg : Str → Option Value) (x : Str) (ds : List D) : Prop := ∃ (a : Addr) (vs : List V), mg x = some (.ref a) ∧ (∀ F, SqT K F a vs) ∧ ∀ (lt : Nat → LamI) F φ, RVs ⟨K, lt⟩ F φ ds vs
theorem gtup {x : Str} {ds : List D} (hm : GTup X.K X.mg x ds) (hg : X.env.kindOf x = some .globalImplicit := by kernel_rfl) (hd : (x == ("__debug__" : Str)) = false := by kernel_rfl) : PE X (.Name x pos) (tD p (ret (.tup ds))) := by
  obtain ⟨ad, vs, h1, h2, h3⟩ := hm
  exact d_glob hg h1 (v := .ref ad) rfl (fun F φ => .tup (h2 F) (h3 lt F φ)) hd
/-! ### built-ins -/
theorem x_len (hm : X.mg "len" = none) (ha : PE X a (tP p fa)) (hg : X.env.kindOf "len" = some .globalImplicit := by kernel_rfl) (he : starEach (a :: []) X.env = (false, eval a X.env) :: starEach [] X.env := by rfl) : PE X (.Call (.Name "len" pf) [a] [] pos) (tD p (op1 lenO fa)) := d_call1 c_len hg hm bb_len ha (by decide) (by decide) he
theorem x_abs (hm : X.mg "abs" = none) (ha : PE X a (tP p fa)) (hg : X.env.kindOf "abs" = some .globalImplicit := by kernel_rfl) (he : starEach (a :: []) X.env = (false, eval a X.env) :: starEach [] X.env := by rfl) : PE X (.Call (.Name "abs" pf) [a] [] pos) (tD p (op1 absO fa)) := d_call1 c_abs hg hm bb_abs ha (by decide) (by decide) he
theorem x_all (hm : X.mg "all" = none) (ha : PE X a (tP p fa)) (hc : X.calm = true := by rfl) (hg : X.env.kindOf "all" = some .globalImplicit := by kernel_rfl) (he : starEach (a :: []) X.env = (false, eval a X.env) :: starEach [] X.env := by rfl) : PE X (.Call (.Name "all" pf) [a] [] pos) (tD p (op1 allO fa)) := d_call1 (c_all hc) hg hm bb_all ha (by decide) (by decide) he
theorem x_any (hm : X.mg "any" = none) (ha : PE X a (tP p fa)) (hc : X.calm = true := by rfl) (hg : X.env.kindOf "any" = some .globalImplicit := by kernel_rfl) (he : starEach (a :: []) X.env = (false, eval a X.env) :: starEach [] X.env := by rfl) : PE X (.Call (.Name "any" pf) [a] [] pos) (tD p (op1 anyO fa)) := d_call1 (c_any hc) hg hm bb_any ha (by decide) (by decide) he
theorem x_repr (hm : X.mg "repr" = none) (hgd : X.A.guards = some []) (hu : X.A.units + 64 < cLine) (ha : PE X a (tP p fa)) (hg : X.env.kindOf "repr" = some .globalImplicit := by kernel_rfl) (he : starEach (a :: []) X.env = (false, eval a X.env) :: starEach [] X.env := by rfl) : PE X (.Call (.Name "repr" pf) [a] [] pos) (tD p (op1 reprO fa)) := d_call1 (c_repr hgd hu) hg hm bb_repr ha (by decide) (by decide) he
theorem x_int (hm : X.mg "int" = none) (ha : PE X a (tP p fa)) (hg : X.env.kindOf "int" = some .globalImplicit := by kernel_rfl) (he : starEach (a :: []) X.env = (false, eval a X.env) :: starEach [] X.env := by rfl) : PE X (.Call (.Name "int" pf) [a] [] pos) (tD p (op1 intO fa)) := d_callT1 c_int hg hm bb_int ha (by decide) (by decide) he
theorem x_str (hm : X.mg "str" = none) (ha : PE X a (tP p fa)) (hg : X.env.kindOf "str" = some .globalImplicit := by kernel_rfl) (he : starEach (a :: []) X.env = (false, eval a X.env) :: starEach [] X.env := by rfl) : PE X (.Call (.Name "str" pf) [a] [] pos) (tD p (op1 strO fa)) := d_callT1 c_str hg hm bb_str ha (by decide) (by decide) he
theorem x_tuple (hm : X.mg "tuple" = none) (ha : PE X a (tP p fa)) (hg : X.env.kindOf "tuple" = some .globalImplicit := by kernel_rfl) (he : starEach (a :: []) X.env = (false, eval a X.env) :: starEach [] X.env := by rfl) : PE X (.Call (.Name "tuple" pf) [a] [] pos) (tD p (op1 tupleO fa)) := d_callT1 c_tuple hg hm bb_tuple ha (by decide) (by decide) he
theorem x_list (hm : X.mg "list" = none) (ha : PE X a (tP p fa)) (hg : X.env.kindOf "list" = some .globalImplicit := by kernel_rfl) (he : starEach (a :: []) X.env = (false, eval a X.env) :: starEach [] X.env := by rfl) : PE X (.Call (.Name "list" pf) [a] [] pos) (tD p (op1 listO fa)) := d_callT1 c_list hg hm bb_list ha (by decide) (by decide) he
theorem x_max (hm : X.mg "max" = none) (ha : PE X a (tP p fa)) (hb : PE X b (tP p fb)) (hc : X.calm = true := by rfl) (hg : X.env.kindOf "max" = some .globalImplicit := by kernel_rfl)
    (he : starEach (a :: [b]) X.env = (false, eval a X.env) :: starEach [b] X.env := by rfl) (he2 : starEach (b :: []) X.env = (false, eval b X.env) :: starEach [] X.env := by rfl) (hpl : (backTo pos (starEach [b] X.env)).any (·.1) = false := by rfl) :
    PE X (.Call (.Name "max" pf) [a, b] [] pos) (tD p (op2 maxO fa fb)) := d_call2 (c_max hc) hg hm bb_max ha hb (by decide) (by decide) he he2 hpl
theorem x_min (hm : X.mg "min" = none) (ha : PE X a (tP p fa)) (hb : PE X b (tP p fb)) (hc : X.calm = true := by rfl) (hg : X.env.kindOf "min" = some .globalImplicit := by kernel_rfl)
    (he : starEach (a :: [b]) X.env = (false, eval a X.env) :: starEach [b] X.env := by rfl) (he2 : starEach (b :: []) X.env = (false, eval b X.env) :: starEach [] X.env := by rfl) (hpl : (backTo pos (starEach [b] X.env)).any (·.1) = false := by rfl) :
    PE X (.Call (.Name "min" pf) [a, b] [] pos) (tD p (op2 minO fa fb)) := d_call2 (c_min hc) hg hm bb_min ha hb (by decide) (by decide) he he2 hpl
theorem x_divmod (hm : X.mg "divmod" = none) (ha : PE X a (tP p fa)) (hb : PE X b (tP p fb)) (hg : X.env.kindOf "divmod" = some .globalImplicit := by kernel_rfl)
    (he : starEach (a :: [b]) X.env = (false, eval a X.env) :: starEach [b] X.env := by rfl) (he2 : starEach (b :: []) X.env = (false, eval b X.env) :: starEach [] X.env := by rfl) (hpl : (backTo pos (starEach [b] X.env)).any (·.1) = false := by rfl) :
    PE X (.Call (.Name "divmod" pf) [a, b] [] pos) (tD p (op2 divmodO fa fb)) := d_call2 c_divmod hg hm bb_divmod ha hb (by decide) (by decide) he he2 hpl
theorem x_gcd {x : Str} (hm : X.mg x = some (.builtin "math.gcd")) (ha : PE X a (tP p fa)) (hb : PE X b (tP p fb)) (hg : X.env.kindOf x = some .globalImplicit := by kernel_rfl) (hdb : (x == ("__debug__" : Str)) = false := by kernel_rfl)
    (he : starEach (a :: [b]) X.env = (false, eval a X.env) :: starEach [b] X.env := by rfl) (he2 : starEach (b :: []) X.env = (false, eval b X.env) :: starEach [] X.env := by rfl) (hpl : (backTo pos (starEach [b] X.env)).any (·.1) = false := by rfl) :
    PE X (.Call (.Name x pf) [a, b] [] pos) (tD p (op2 gcdO fa fb)) := d_callM2 c_gcd hg hm ha hb hdb he he2 hpl
theorem x_isi (T : Ty) (tn : Str) {pt : Pos} (hm : X.mg "isinstance" = none) (hm2 : X.mg tn = none) (hv : bootBuiltins tn = some (.type T.name)) (ha : PE X a (tP p fa)) (hg : X.env.kindOf "isinstance" = some .globalImplicit := by kernel_rfl) (hg2 : X.env.kindOf tn = some .globalImplicit := by kernel_rfl) (hn : tn ≠ "__name__" := by decide) (hdb : (tn == ("__debug__" : Str)) = false := by kernel_rfl)
    (he : starEach (a :: [.Name tn pt]) X.env = (false, eval a X.env) :: starEach [.Name tn pt] X.env := by rfl) (he2 : starEach [.Name tn pt] X.env = (false, eval (.Name tn pt) X.env) :: starEach [] X.env := by rfl) (hpl : (backTo pos (starEach [.Name tn pt] X.env)).any (·.1) = false := by rfl) :
    PE X (.Call (.Name "isinstance" pf) [a, .Name tn pt] [] pos) (tD p (op1 (isiO T) fa)) := d_isi hg hm hg2 hm2 hv ha hn hdb he he2 hpl
/-! ### comparisons -/
theorem kD {op : CmpOp} {o : O2} (ho : OpR X (compareOp op) (rO2 p o)) (ha : PE X a (tP p fa)) (hb : PE X b (tP p fb)) (hm : behindInMarks op b = false := by with_unfolding_all rfl) : PE X (.Compare a [op] [b] pos) (tD p (op2 o fa fb)) := d_cmp ho ha hb hm
theorem kB {op : CmpOp} {o : O2} (ho : OpR X (compareOp op) (rO2 p o)) (ha : PE X a (tP p fa)) (hb : PE X b (tP p fb)) (hm : behindInMarks op b = false := by with_unfolding_all rfl) : PT X (.Compare a [op] [b] pos) (tB p (asB (op2 o fa fb))) := b_cmp ho ha hb hm
/-! ### statements -/
theorem sset (i : Nat) {x : Str} {pos' : Pos} (hN : X.N.Nodup) (ha : PE X a (tD p fa)) (hi : X.N[i]? = some x := by kernel_rfl) (hx : X.env.scope.names.lookup x = some .local := by kernel_rfl) (hs : swapsWith a (some (.Name x pos')) pos.line X.env = pure false := by rfl) :
    PS X (.Assign [.Name x pos'] a pos) (tS p (asgS fa (setv i))) := s_set hN hi (.inl hx) ha hs (.inr hx)
theorem ssetc (i : Nat) {x : Str} {pos' : Pos} (hN : X.N.Nodup) (ha : PE X a (tD p fa)) (hi : X.N[i]? = some x := by kernel_rfl) (hx : X.env.scope.names.lookup x = some .cell := by kernel_rfl) (hs : swapsWith a (some (.Name x pos')) pos.line X.env = pure false := by rfl) (hf : X.fn x = true := by rfl) :
    PS X (.Assign [.Name x pos'] a pos) (tS p (asgS fa (setv i))) := s_set hN hi (.inr hx) ha hs (.inl hf)
theorem sown (i : Nat) {x : Str} {pos' : Pos} (hN : X.N.Nodup) (ha : PE X a (tF p fl)) (hi : X.N[i]? = some x := by kernel_rfl) (hx : X.env.scope.names.lookup x = some .local := by kernel_rfl) (hs : swapsWith a (some (.Name x pos')) pos.line X.env = pure false := by rfl) :
    PS X (.Assign [.Name x pos'] a pos) (tS p (ownS fl i)) := s_own hN hi (.inl hx) ha hs (.inr hx)
theorem sownc (i : Nat) {x : Str} {pos' : Pos} (hN : X.N.Nodup) (ha : PE X a (tF p fl)) (hi : X.N[i]? = some x := by kernel_rfl) (hx : X.env.scope.names.lookup x = some .cell := by kernel_rfl) (hs : swapsWith a (some (.Name x pos')) pos.line X.env = pure false := by rfl) (hf : X.fn x = true := by rfl) :
    PS X (.Assign [.Name x pos'] a pos) (tS p (ownS fl i)) := s_own hN hi (.inr hx) ha hs (.inl hf)
theorem gn (i : Nat) {x : Str} (hN : X.N.Nodup) (hi : X.N[i]? = some x := by kernel_rfl) (hx : X.env.scope.names.lookup x = some .local := by kernel_rfl) : PG X (.Name x pos) (gG p (setv i)) := g_name hN hi (.inl hx) (.inr hx)
theorem gnc (i : Nat) {x : Str} (hN : X.N.Nodup) (hi : X.N[i]? = some x := by kernel_rfl) (hx : X.env.scope.names.lookup x = some .cell := by kernel_rfl) (hf : X.fn x = true := by kernel_rfl) : PG X (.Name x pos) (gG p (setv i)) := g_name hN hi (.inr hx) (.inl hf)
theorem cn (i : Nat) {x : Str} {vs : List Nat} (hN : X.N.Nodup) (hv : i ∈ vs := by decide) (hi : X.N[i]? = some x := by kernel_rfl) (hx : X.env.scope.names.lookup x = some .local := by kernel_rfl) : PG X (.Name x pos) (cG p vs (setv i)) := c_name hv hN hi (.inl hx) (.inr hx)
theorem cnc (i : Nat) {x : Str} {vs : List Nat} (hN : X.N.Nodup) (hv : i ∈ vs := by decide) (hi : X.N[i]? = some x := by kernel_rfl) (hx : X.env.scope.names.lookup x = some .cell := by kernel_rfl) (hf : X.fn x = true := by kernel_rfl) : PG X (.Name x pos) (cG p vs (setv i)) := c_name hv hN hi (.inr hx) (.inl hf)
theorem sapp (i : Nat) {x : Str} (ha : PE X a (tD p fa)) (hN : X.N[i]? = some x := by kernel_rfl) (hv : X.env.scope.names.lookup x = some .local := by kernel_rfl) (hs : swapsWith (.Call (.Attribute (.Name x px) "append" pa) [a] [] pos) none pos.line X.env = pure false := by rfl)
    (hbase : attributeBase (.Name x px) "append" X.env (eval (.Name x px) X.env) = eval (.Name x px) X.env := by rfl)
    (hfew : ((backTo pos (starEach (a :: []) X.env)).all (fun x => !x.1) && (backToKw pos (keywordEach [] X.env)).all (fun x => x.1.isSome) && decide ((a :: []).length + ([] : List Keyword).length + (if ([] : List Keyword).isEmpty then 0 else 1) < 30)) = true := by rfl)
    (hline : (pa.endLine == pos.line) = true := by rfl) (hst : starEach (a :: []) X.env = (false, eval a X.env) :: starEach [] X.env := by rfl)
    (hd : (x == ("__debug__" : Str)) = false := by kernel_rfl) (hcd : (x == ("__classdict__" : Str)) = false := by kernel_rfl) : PS X (.Expr (.Call (.Attribute (.Name x px) "append" pa) [a] [] pos) pos) (tS p (appS i fa)) := s_append hN (.inl hv) ha hs hbase hfew hline hst hd hcd
theorem sappc (i : Nat) {x : Str} (ha : PE X a (tD p fa)) (hN : X.N[i]? = some x := by kernel_rfl) (hv : X.env.scope.names.lookup x = some .cell := by kernel_rfl) (hs : swapsWith (.Call (.Attribute (.Name x px) "append" pa) [a] [] pos) none pos.line X.env = pure false := by rfl)
    (hbase : attributeBase (.Name x px) "append" X.env (eval (.Name x px) X.env) = eval (.Name x px) X.env := by rfl)
    (hfew : ((backTo pos (starEach (a :: []) X.env)).all (fun x => !x.1) && (backToKw pos (keywordEach [] X.env)).all (fun x => x.1.isSome) && decide ((a :: []).length + ([] : List Keyword).length + (if ([] : List Keyword).isEmpty then 0 else 1) < 30)) = true := by rfl)
    (hline : (pa.endLine == pos.line) = true := by rfl) (hst : starEach (a :: []) X.env = (false, eval a X.env) :: starEach [] X.env := by rfl)
    (hd : (x == ("__debug__" : Str)) = false := by kernel_rfl) (hcd : (x == ("__classdict__" : Str)) = false := by kernel_rfl) : PS X (.Expr (.Call (.Attribute (.Name x px) "append" pa) [a] [] pos) pos) (tS p (appS i fa)) := s_append hN (.inr (.inl hv)) ha hs hbase hfew hline hst hd hcd
theorem sext (i : Nat) {x : Str} (ha : PE X a (tD p fa)) (hN : X.N[i]? = some x := by kernel_rfl) (hv : X.env.scope.names.lookup x = some .local := by kernel_rfl) (hs : swapsWith (.Call (.Attribute (.Name x px) "extend" pa) [a] [] pos) none pos.line X.env = pure false := by rfl)
    (hbase : attributeBase (.Name x px) "extend" X.env (eval (.Name x px) X.env) = eval (.Name x px) X.env := by rfl)
    (hfew : ((backTo pos (starEach (a :: []) X.env)).all (fun x => !x.1) && (backToKw pos (keywordEach [] X.env)).all (fun x => x.1.isSome) && decide ((a :: []).length + ([] : List Keyword).length + (if ([] : List Keyword).isEmpty then 0 else 1) < 30)) = true := by rfl)
    (hline : (pa.endLine == pos.line) = true := by rfl) (hst : starEach (a :: []) X.env = (false, eval a X.env) :: starEach [] X.env := by rfl)
    (hd : (x == ("__debug__" : Str)) = false := by kernel_rfl) (hcd : (x == ("__classdict__" : Str)) = false := by kernel_rfl) : PS X (.Expr (.Call (.Attribute (.Name x px) "extend" pa) [a] [] pos) pos) (tS p (extS i fa)) := s_extend hN (.inl hv) ha hs hbase hfew hline hst hd hcd
/-! ### comprehensions -/
theorem fcomp {ifs : List Expr} {scope : Scope} {own : List (Str × Nat)} (hN : X.N.Nodup) (hi : PI X tg iter (tI p fi))
    (hg : ∀ (s : Shared) (H : Hp) (C : Addr) (cl : List (Str × Addr)) (fp : List Addr), PG (X.blk s H scope (compEnvC scope cl C X.env) fp) tg (cG p.blk (own.map (·.2)) t)) (ht : ∀ (s : Shared) (H : Hp) (C : Addr) (cl : List (Str × Addr)) (fp : List Addr), PTs (X.blk s H scope (compEnvC scope cl C X.env) fp) ifs (tB p.blk ba))
    (he : ∀ (s : Shared) (H : Hp) (C : Addr) (cl : List (Str × Addr)) (fp : List Addr), PE (X.blk s H scope (compEnvC scope cl C X.env) fp) elt (tD p.blk fe)) (ok : blkC X.N X.env.scope scope own = true := by kernel_rfl) (hc : X.calm = true := by rfl) (hs : ∀ x, foldedSetIterable iter X.env x = pure x := by intro _; rfl) :
    PE X (.ListComp elt [⟨tg, iter, ifs, 0⟩] scope pos) (tF p (lcM (own.map (·.2)) fi t ba fe)) := f_lc hc hN hi (blkOk_by ok) hg ht he hs
theorem scomp (i : Nat) {y : Str} {py spos : Pos} {ifs : List Expr} {scope : Scope} {own : List (Str × Nat)} (hN : X.N.Nodup) (hi : PI X tg iter (tI p fi))
    (hg : ∀ (s : Shared) (H : Hp) (C : Addr) (cl : List (Str × Addr)) (fp : List Addr), PG (X.blk s H scope (compEnvC scope cl C X.env) fp) tg (cG p.blk (own.map (·.2)) t)) (ht : ∀ (s : Shared) (H : Hp) (C : Addr) (cl : List (Str × Addr)) (fp : List Addr), PTs (X.blk s H scope (compEnvC scope cl C X.env) fp) ifs (tB p.blk ba))
    (he : ∀ (s : Shared) (H : Hp) (C : Addr) (cl : List (Str × Addr)) (fp : List Addr), PE (X.blk s H scope (compEnvC scope cl C X.env) fp) elt (tD p.blk fe)) (hy : X.N[i]? = some y := by kernel_rfl) (hyl : X.env.scope.names.lookup y = some .local := by kernel_rfl) (hk : X.env.scope.kind = .function := by kernel_rfl) (hl : (py.line == pos.line) = true := by kernel_rfl)
    (hna : (scope.names.any fun (n, k) => n == y && (k == .local || k == .cell)) = false := by kernel_rfl) (ok : blkC X.N X.env.scope scope own = true := by kernel_rfl) (hc : X.calm = true := by rfl) (hs : ∀ x, foldedSetIterable iter X.env x = pure x := by intro _; rfl) :
    PS X (.Assign [.Name y py] (.ListComp elt [⟨tg, iter, ifs, 0⟩] scope pos) spos) (tS p (asgS (frzd (lcM (own.map (·.2)) fi t ba fe)) (setv i))) := s_lc hc hN hy hyl (sw_true hk hyl hl hna) hi (blkOk_by ok) hg ht he hs
theorem scompo (i : Nat) {y : Str} {py spos : Pos} {ifs : List Expr} {scope : Scope} {own : List (Str × Nat)} (hN : X.N.Nodup) (hi : PI X tg iter (tI p fi))
    (hg : ∀ (s : Shared) (H : Hp) (C : Addr) (cl : List (Str × Addr)) (fp : List Addr), PG (X.blk s H scope (compEnvC scope cl C X.env) fp) tg (cG p.blk (own.map (·.2)) t)) (ht : ∀ (s : Shared) (H : Hp) (C : Addr) (cl : List (Str × Addr)) (fp : List Addr), PTs (X.blk s H scope (compEnvC scope cl C X.env) fp) ifs (tB p.blk ba))
    (he : ∀ (s : Shared) (H : Hp) (C : Addr) (cl : List (Str × Addr)) (fp : List Addr), PE (X.blk s H scope (compEnvC scope cl C X.env) fp) elt (tD p.blk fe)) (hy : X.N[i]? = some y := by kernel_rfl) (hyl : X.env.scope.names.lookup y = some .local := by kernel_rfl) (hk : X.env.scope.kind = .function := by kernel_rfl) (hl : (py.line == pos.line) = true := by kernel_rfl)
    (hna : (scope.names.any fun (n, k) => n == y && (k == .local || k == .cell)) = false := by kernel_rfl) (ok : blkC X.N X.env.scope scope own = true := by kernel_rfl) (hc : X.calm = true := by rfl) (hs : ∀ x, foldedSetIterable iter X.env x = pure x := by intro _; rfl) :
    PS X (.Assign [.Name y py] (.ListComp elt [⟨tg, iter, ifs, 0⟩] scope pos) spos) (tS p (ownS (lcM (own.map (·.2)) fi t ba fe) i)) := s_lcown hc hN hy hyl (sw_true hk hyl hl hna) hi (blkOk_by ok) hg ht he hs
end
end Mp

set_option Elab.async false
set_option linter.all false
set_option maxRecDepth 100000
set_option maxHeartbeats 4000000
namespace Mp
open PySem PySem.Spec L2
open PyProof.Rows hiding St

theorem hu64_of {A : Around} {k : Nat} (hr : Room k A) : A.units + 64 < cLine := hr.units
theorem hu65_of {A : Around} {k : Nat} (hr : Room k A) : A.units + 65 < cLine := by have := hr.un; omega
/-- a def as a caller finds it -/
structure Cf (K : PySem.W.Frag) (mg : Str → Option Value) (x : Str) (f : Addr) (fd : FuncData) (ps : List Str) : Prop where
  g : mg x = some (.ref f)
  kp : PySem.W.keepIn K (.ref f) = true
  b : Binds K fd ps []
theorem fnD_stk {P : Program} {w : World} {K : Kx} {T : List (Addr × Str)} {mg : Str → Option Value} {base : Heap} {k : Nat} {f : Addr} {fd : FuncData} {ps : List Str} : FnD P w K T mg base k f fd ps (fun _ => stk) :=
  ⟨⟨fun vs H Q E h => h.1, fun A outer s H args us vs Q E _ _ _ _ _ h => by
    obtain ⟨_, _, _, _, _, _, _, _, _, _, q⟩ := h
    exact q.elim⟩, fun _ _ _ => rfl⟩
section
variable {X : Cx} {lt : Nat → LamI} {p : Pm ⟨X.K, lt⟩} {e a b c : Expr} {es : List Expr} {kws : List Keyword} {pos pf kpos : Pos} {fl fk : M (List D)} {k j : Nat} {f : Addr} {fd : FuncData} {ps ks : List Str} {F : List D → M D} {x : Str}
theorem cl (C : Cf X.K X.mg x f fd ps) (FO : FnD X.prog X.w ⟨X.K, lt⟩ p.T X.mg X.base j f fd ps F) (hgd : X.A.guards = some []) (hr : Room k X.A) (tk : Takes X p.W)
    (ha : PA X (e :: es) (tL p fl)) (hj : j ≤ k := by decide) (hg : X.env.kindOf x = some .globalImplicit := by kernel_rfl) (hdb : (x == ("__debug__" : Str)) = false := by kernel_rfl) (he : starEach (e :: es) X.env = (false, eval e X.env) :: starEach es X.env := by rfl) (hpl : (backTo pos (starEach es X.env)).any (·.1) = false := by rfl) :
    PE X (.Call (.Name x pf) (e :: es) [] pos) (tD p (callM F fl)) := d_call (FO.mono hj) hgd hr tk hg C.g C.kp C.b ha hdb he hpl
theorem cl0 (C : Cf X.K X.mg x f fd []) (FO : FnD X.prog X.w ⟨X.K, lt⟩ p.T X.mg X.base j f fd [] F) (hgd : X.A.guards = some []) (hr : Room k X.A) (tk : Takes X p.W)
    (hj : j ≤ k := by decide) (hg : X.env.kindOf x = some .globalImplicit := by kernel_rfl) (hdb : (x == ("__debug__" : Str)) = false := by kernel_rfl) :
    PE X (.Call (.Name x pf) [] [] pos) (tD p (callM F argN)) := d_call0 (FO.mono hj) hgd hr tk hg C.g C.kp C.b rfl hdb
theorem clK {o : List Nat} {nu nk : Nat} (C : Cf X.K X.mg x f fd ps) (FO : FnD X.prog X.w ⟨X.K, lt⟩ p.T X.mg X.base j f fd ps F) (hgd : X.A.guards = some []) (hr : Room k X.A) (tk : Takes X p.W) (hb : KB X.K fd ps ks nu o)
    (ha : PA X (e :: es) (tL p fl)) (hkw : PK X kws (tL p fk)) (hnk : ks.length = nk := by rfl) (hj : j ≤ k := by decide) (hg : X.env.kindOf x = some .globalImplicit := by kernel_rfl) (hall : (backToKw pos (keywordEach kws X.env)).all (·.1.isSome) = true := by rfl) (hks : (backToKw pos (keywordEach kws X.env)).filterMap (·.1) = ks := by rfl)
    (hdb : (x == ("__debug__" : Str)) = false := by kernel_rfl) (he : starEach (e :: es) X.env = (false, eval e X.env) :: starEach es X.env := by rfl)
    (hpl : ((backTo pos (starEach (e :: es) X.env)).any (·.1) || (backToKw pos (keywordEach kws X.env)).any (·.1.isNone)) = false := by rfl) :
    PE X (.Call (.Name x pf) (e :: es) kws pos) (tD p (callK nu nk o F fl fk)) := by subst hnk; exact d_callK (FO.mono hj) hgd hr tk hg C.g C.kp hb ha hkw hall hks hdb he hpl
theorem clK0 {o : List Nat} {nk : Nat} (C : Cf X.K X.mg x f fd ps) (FO : FnD X.prog X.w ⟨X.K, lt⟩ p.T X.mg X.base j f fd ps F) (hgd : X.A.guards = some []) (hr : Room k X.A) (tk : Takes X p.W) (hb : KB X.K fd ps ks 0 o)
    (hkw : PK X kws (tL p fk)) (hnk : ks.length = nk := by rfl) (hj : j ≤ k := by decide) (hg : X.env.kindOf x = some .globalImplicit := by kernel_rfl) (hall : (backToKw pos (keywordEach kws X.env)).all (·.1.isSome) = true := by rfl) (hks : (backToKw pos (keywordEach kws X.env)).filterMap (·.1) = ks := by rfl)
    (hdb : (x == ("__debug__" : Str)) = false := by kernel_rfl)
    (hpl : ((backTo pos (starEach [] X.env)).any (·.1) || (backToKw pos (keywordEach kws X.env)).any (·.1.isNone)) = false := by rfl) :
    PE X (.Call (.Name x pf) [] kws pos) (tD p (callK 0 nk o F argN fk)) := by subst hnk; exact d_callK0 (FO.mono hj) hgd hr tk hg C.g C.kp hb hkw hall hks hdb hpl
end
end Mp

set_option Elab.async false
set_option linter.all false
set_option maxRecDepth 100000
set_option maxHeartbeats 4000000
/-! sets of nested tuples of numbers -/
namespace NS
open PySem PySem.Spec L2
open PyProof.Rows hiding St
open NestedKey (depth depthAll)
mutual
/-- no text in it -/
def nt : NestedKey → Bool
  | .text _ => false
  | .tup ks => ntAll ks
  | .none => true
  | .num _ => true
def ntAll : List NestedKey → Bool
  | [] => true
  | k :: ks => nt k && ntAll ks
end
section
variable {P : Program} {w : World} {A : Around} {E : Value → Shared → Prop} {s : Shared}
/-- a question that a tuple hands on to each of its items, answered no at each -/
theorem ask_items {items : List Value} {A : Around} {body : Value → Option Bool × PUnit → Sem (ForInStep (Option Bool × PUnit))}
    (hbody : ∀ v ∈ items, ∀ (r : Option Bool × PUnit) (Q : ForInStep (Option Bool × PUnit) → Shared → Prop), r.1 = none → (∀ r', r'.1 = none → Q (.yield r') s) → wpAny (model P w) A (body v r) Q E s)
    {Q2 : Option Bool × PUnit → Shared → Prop} {r0 : Option Bool × PUnit} (h0 : r0.1 = none) (h : ∀ r, r.1 = none → Q2 r s) : wpAny (model P w) A (forIn items r0 body) Q2 E s := by
  refine wpAny_forIn_list _ (fun rest r s' => r.1 = none ∧ s' = s ∧ ∀ v ∈ rest, v ∈ items) _ ?_ ?_ _ _ ⟨h0, rfl, fun v hv => hv⟩
  · rintro v rest r s' ⟨hr, rfl, hall⟩
    exact hbody v (hall v List.mem_cons_self) r _ hr fun r' hr' => ⟨hr', rfl, fun u hu => hall u (List.mem_cons_of_mem _ hu)⟩
  · rintro r s' ⟨hr, rfl, _⟩
    exact h r hr
mutual
theorem cls_key : ∀ (k : NestedKey) (v : Value) (n : Nat) (s : Shared) (A : Around) (Q : Bool → Shared → Prop), NestedIs s.heap k v → k.depth ≤ n → Q false s → wpAny (model P w) A (ofAClassStatement n v) Q E s
  | .none, _, n, s, A, Q, x, _, h => by
    cases x
    cases n <;> exact wpAny_pure h
  | .num i, _, n, s, A, Q, x, _, h => by
    cases x <;> cases n <;> exact wpAny_pure h
  | .text y, _, n, s, A, Q, x, _, h => by
    cases x
    cases n <;> exact wpAny_pure h
  | .tup ks, _, n, s, A, Q, x, hn, h => by
    cases x with
    | @tup a o vs m _ ho hc hd hk =>
      cases n with
      | zero => simp [NestedKey.depth] at hn
      | succ n =>
        have hT : s.TypeIs (.ref a) "tuple" := ⟨o, ho, hc⟩
        unfold ofAClassStatement
        refine wpAny_bind (wpAny_typeOf hT ?_)
        dsimp only
        simp only [show (("tuple" : String) == "tuple") = true from by decide, if_true]
        refine wpAny_bind (wpAny_pure ?_)
        simp only [Bool.not_true, Bool.false_eq_true, if_false]
        refine wpAny_bind (wpAny_seqItems ho hd ?_)
        dsimp only
        refine wpAny_bind ?_
        rw [← Array.forIn_toList]
        refine ask_items (fun v hv r Q hr q => ?_) rfl fun r hr => ?_
        · refine wpAny_bind (cls_keys ks vs.toList n s hk (by simp only [NestedKey.depth] at hn; omega) v hv A _ ?_)
          simp only [Bool.false_eq_true, if_false]
          exact wpAny_pure (q _ rfl)
        · obtain ⟨r1, r2⟩ := r
          simp only at hr
          subst hr
          exact wpAny_pure h
theorem cls_keys : ∀ (ks : List NestedKey) (vs : List Value) (n : Nat) (s : Shared), NestedAll s.heap ks vs → NestedKey.depthAll ks ≤ n → ∀ v ∈ vs, ∀ (A : Around) (Q : Bool → Shared → Prop), Q false s → wpAny (model P w) A (ofAClassStatement n v) Q E s
  | [], _, n, s, x, _, v, hv => by cases x; cases hv
  | k :: ks, _, n, s, x, hn, v, hv => by
    cases x with
    | cons x1 x2 =>
      simp only [NestedKey.depthAll] at hn
      rcases List.mem_cons.mp hv with e | hv
      · rw [e]; exact fun A Q q => cls_key k _ n s A Q x1 (by omega) q
      · exact cls_keys ks _ n s x2 (by omega) v hv
end
mutual
theorem byv_key : ∀ (k : NestedKey) (v : Value) (n : Nat) (s : Shared) (A : Around) (Q : Bool → Shared → Prop), NestedIs s.heap k v → k.depth ≤ n → nt k = true → Q true s → wpAny (model P w) A (hashByValue n v) Q E s
  | .none, _, n, s, A, Q, x, _, _, h => by
    cases x
    cases n <;> exact wpAny_pure h
  | .num i, _, n, s, A, Q, x, _, _, h => by
    cases x <;> cases n <;> exact wpAny_pure h
  | .text y, _, n, s, A, Q, x, _, t, h => by simp [nt] at t
  | .tup ks, _, n, s, A, Q, x, hn, t, h => by
    cases x with
    | @tup a o vs m _ ho hc hd hk =>
      cases n with
      | zero => simp [NestedKey.depth] at hn
      | succ n =>
        have hT : s.TypeIs (.ref a) "tuple" := ⟨o, ho, hc⟩
        have t' : ntAll ks = true := by simpa only [nt] using t
        unfold hashByValue
        refine wpAny_bind (wpAny_specialOf hT F.slot_tuple_hash.lookup ?_)
        refine wpAny_bind (wpAny_seqItems ho hd ?_)
        refine wpAny_bind ?_
        show wpAny _ _ (forIn vs _ _) _ _ s
        rw [← Array.forIn_toList]
        refine ask_items (fun v hv r Q hr q => ?_) rfl fun r hr => ?_
        · refine wpAny_bind (byv_keys ks vs.toList n s hk (by simp only [NestedKey.depth] at hn; omega) t' v hv A _ ?_)
          simp only [Bool.not_true, Bool.false_eq_true, if_false]
          exact wpAny_pure (q _ rfl)
        · obtain ⟨r1, r2⟩ := r
          simp only at hr
          subst hr
          exact wpAny_pure h
theorem byv_keys : ∀ (ks : List NestedKey) (vs : List Value) (n : Nat) (s : Shared), NestedAll s.heap ks vs → NestedKey.depthAll ks ≤ n → ntAll ks = true → ∀ v ∈ vs, ∀ (A : Around) (Q : Bool → Shared → Prop), Q true s → wpAny (model P w) A (hashByValue n v) Q E s
  | [], _, n, s, x, _, _, v, hv => by cases x; cases hv
  | k :: ks, _, n, s, x, hn, t, v, hv => by
    cases x with
    | cons x1 x2 =>
      simp only [NestedKey.depthAll] at hn
      have t' : nt k = true ∧ ntAll ks = true := by simpa only [ntAll, Bool.and_eq_true] using t
      rcases List.mem_cons.mp hv with e | hv
      · rw [e]; exact fun A Q q => byv_key k _ n s A Q x1 (by omega) t'.1 q
      · exact byv_keys ks _ n s x2 (by omega) t'.2 v hv
end
end
/-- the tuple at b is the key k -/
def IsN (h : Heap) (k : NestedKey) (b : Addr) : Prop := NestedIs h k (.ref b) ∧ k.depth ≤ 8 ∧ nt k = true
abbrev AK := Addr × NestedKey
def row (w : World) (p : AK) : Int × Value := (p.2.hash w, .ref p.1)
structure NSet (w : World) (h : Heap) (a : Addr) (L : List AK) (es : Array (Int × Value)) (ep : Nat) (t : SetTable) : Prop where
  ob : ∃ o, h.get? a = some o ∧ o.ExactSet ∧ o.data = .set es ep t
  rows : es.toList = L.map (row w)
  tab : TabOk t (L.map fun p => p.2.hash w)
  nd : (L.map (·.2)).Nodup
  key : ∀ p ∈ L, IsN h p.2 p.1
  plain : t.plain = true
  led : w.params.followText "set-order" = true ∨ t.led = true
  room : L.length * 5 < t.mask * 3
  few : L.length < 64
section
variable {P : Program} {w : World} {A : Around} {E : Value → Shared → Prop} {s : Shared}
theorem quietN {k : NestedKey} {b : Addr} {Q : Bool → Shared → Prop} (h : IsN s.heap k b) (q : Q true s) : wpAny (model P w) A (eqIsQuiet 8 (.ref b)) Q E s := quiet_key k _ 8 s h.1 h.2.1 A E Q q
theorem clsN {k : NestedKey} {b : Addr} {Q : Bool → Shared → Prop} (h : IsN s.heap k b) (q : Q false s) : wpAny (model P w) A (ofAClassStatement 8 (.ref b)) Q E s := cls_key k _ 8 s A Q h.1 h.2.1 q
theorem byvN {k : NestedKey} {b : Addr} {Q : Bool → Shared → Prop} (h : IsN s.heap k b) (q : Q true s) : wpAny (model P w) A (hashByValue 8 (.ref b)) Q E s := byv_key k _ 8 s A Q h.1 h.2.1 h.2.2 q
theorem eqN {x y : NestedKey} {b c : Addr} {Q : Bool → Shared → Prop} (hu : A.units + 8 < cLine) (hx : IsN s.heap x b) (hy : IsN s.heap y c) (q : Q (decide (x = y)) s) : wpAny (model P w) A (eqBool (.ref b) (.ref c)) Q E s :=
  (nestedKind P w).eqBool hu ⟨hx.1, hx.2.1⟩ ⟨hy.1, hy.2.1⟩ q
theorem seenN {k : NestedKey} {b : Addr} {Q : Bool → Shared → Prop} (hk : IsN s.heap k b) {ys : List Value} (hy : ∀ y ∈ ys, ∃ k' c, y = Value.ref c ∧ IsN s.heap k' c) (h : Q false s) : wpAny (model P w) A (searchCouldBeSeen (.ref b) ys) Q E s := by
  unfold searchCouldBeSeen
  refine wpAny_bind (ask_items (fun v hv r Q hr q => ?_) rfl fun r hr => ?_)
  · obtain ⟨k', c, rfl, hc⟩ := hy v hv
    dsimp only
    by_cases hv : (b == c || (carriedByValue (.ref b) && carriedByValue (.ref c))) = true
    · exact wp_if_pos hv (wpAny_pure (q _ rfl))
    · refine wp_if_neg hv (wpAny_bind (quietN hk ?_))
      simp only [Bool.not_true, Bool.false_eq_true, if_false]
      refine wpAny_bind (quietN hc ?_)
      simp only [Bool.not_true, Bool.false_eq_true, if_false]
      refine wpAny_bind (clsN hk ?_)
      simp only [Bool.false_eq_true, if_false]
      refine wpAny_bind (clsN hc ?_)
      simp only [Bool.false_eq_true, if_false]
      exact wpAny_pure (q _ rfl)
  · obtain ⟨r1, r2⟩ := r
    simp only at hr
    subst hr
    exact wpAny_pure h
end
end NS

set_option Elab.async false
set_option linter.all false
set_option maxRecDepth 100000
set_option maxHeartbeats 4000000
namespace NS
open PySem PySem.Spec L2
open PyProof.Rows hiding St
/-- the probe's state after c steps for the hash h -/
abbrev pst (m : Nat) (h : Int) (c : Nat) : SetTable.Probe := nth m (runAt m (SetTable.bits h % (m + 1)) (SetTable.bits h)) c
theorem pst_dummy (m : Nat) (h : Int) (c : Nat) : (pst m h c).dummy = none := by
  have key : ∀ (n : Nat) (p : SetTable.Probe), p.dummy = none → (nth m p n).dummy = none := by
    intro n
    induction n with
    | zero => exact fun p e => e
    | succ n ih => exact fun p e => ih (adv m p) (by unfold adv; split <;> exact e)
  exact key c _ rfl
theorem pst_add (m : Nat) (h : Int) (c q : Nat) : nth m (pst m h c) q = pst m h (c + q) := (nth_add m c _ q).symm
section
variable {P : Program} {w : World} {A : Around} {E : Value → Shared → Prop} {s : Shared}
variable {a : Addr} {L : List AK} {es : Array (Int × Value)} {ep : Nat} {t : SetTable}
theorem NSet.size (R : NSet w s.heap a L es ep t) : es.size = L.length := by
  rw [← Array.length_toList, R.rows, List.length_map]
theorem NSet.psz (R : NSet w s.heap a L es ep t) : t.place.toList.length = L.length := by
  have h := R.tab.sz
  rw [List.length_map] at h
  rw [Array.length_toList]
  exact h
theorem fits_of {t : SetTable} {n : Nat} (h1 : t.place.size = n) (h2 : t.dummies = #[]) (h3 : n ≤ t.mask) : t.fits n = true := by
  unfold SetTable.fits SetTable.fill
  rw [h2, Bool.and_eq_true, beq_iff_eq, decide_eq_true_eq]
  exact ⟨h1, by show t.place.size + 0 ≤ t.mask; omega⟩
theorem NSet.fits (R : NSet w s.heap a L es ep t) : t.fits es.size = true := by
  have h := R.psz
  have h2 := R.size
  have h3 := R.room
  rw [Array.length_toList] at h
  exact fits_of (by omega) R.tab.dm (by omega)
theorem NSet.at_ (R : NSet w s.heap a L es ep t) {i : Nat} {p : AK} (h : L[i]? = some p) : es[i]? = some (p.2.hash w, Value.ref p.1) := by
  rw [← Array.getElem?_toList, R.rows, List.getElem?_map, h]
  rfl
theorem NSet.hashAt (R : NSet w s.heap a L es ep t) {i : Nat} {p : AK} (h : L[i]? = some p) : (es[i]?.map (·.1)).getD 0 = p.2.hash w := by
  rw [R.at_ h]
  rfl
/-- the search, from a place on the way behind which k does not stand -/
theorem find_from (R : NSet w s.heap a L es ep t) {x : Addr} {k : NestedKey} (hx : IsN s.heap k x) (hu : A.units + 8 < cLine) {K : Nat} (hKf : K < 10 * SetTable.turns t.mask)
    (hK : way t.mask (k.hash w) K ∉ t.place.toList) (hKb : ∀ c, c < K → way t.mask (k.hash w) c ∈ t.place.toList) {Q : SetFound → Shared → Prop}
    (hin : k ∈ L.map (·.2) → Q (.there none) s) (hout : k ∉ L.map (·.2) → Q (.free (way t.mask (k.hash w) K) false) s) :
    ∀ (f c : Nat) (stand : Option SetTable.Probe), stand.getD (t.probeStart (k.hash w)) = pst t.mask (k.hash w) c → c ≤ K → K < f + c →
      (∀ (c' i : Nat) (p : AK), c' < c → t.place.toList[i]? = some (way t.mask (k.hash w) c') → L[i]? = some p → p.2 ≠ k) →
      wpAny (model P w) A (setSearchFrom a (.ref x) (k.hash w) true f stand) Q E s := by
  obtain ⟨o, ho, hex, hd⟩ := R.ob
  have gw : ¬ t.gaveWay = true := by
    unfold SetTable.gaveWay
    rw [mask_odd R.tab.mok]
    decide
  intro f
  induction f with
  | zero => exact fun c stand _ h1 h2 _ => by omega
  | succ f ih =>
    intro c stand hst hc hf hpast
    rw [setSearchFrom_succ]
    refine wpAny_bind (wpAny_setState_of ho hd R.fits ?_)
    dsimp only
    refine wp_if_neg gw ?_
    try refine wpAny_bind (wpAny_pure ?_)
    rw [hst]
    have ej : ∀ q, (nth t.mask (pst t.mask (k.hash w) c) q).j = way t.mask (k.hash w) (c + q) := fun q => congrArg SetTable.Probe.j (pst_add t.mask (k.hash w) c q)
    have eK : c + (K - c) = K := by omega
    rcases go_spec t R.tab.ris R.tab.dm (fun i => (es[i]?.map (·.1)).getD 0) (k.hash w) (10 * SetTable.turns t.mask) (K - c) _ (pst_dummy t.mask (k.hash w) c) (by omega)
      (fun q hq => by rw [ej]; exact hKb (c + q) (by omega)) (by rw [ej, eK]; exact hK) with ⟨q, i, hq, hi, hh, hno, hpr⟩ | ⟨hno, hpr⟩
    · rw [ej] at hi
      have hil : i < L.length := by
        rw [← R.psz]
        exact (List.getElem?_eq_some_iff.mp hi).1
      obtain ⟨p, hp⟩ : ∃ p, L[i]? = some p := ⟨_, List.getElem?_eq_getElem hil⟩
      have hm : p ∈ L := List.mem_of_getElem? hp
      have hsl : t.slot (way t.mask (k.hash w) (c + q)) = .live i := slot_live R.tab.ris hi
      -- what is asked of the candidate
      have rest : wpAny (model P w) A (searchRest a (.ref x) (k.hash w) true f es t (way t.mask (k.hash w) (c + q)) i (pst t.mask (k.hash w) (c + (q + 1)))) Q E s := by
        unfold searchRest
        rw [R.at_ hp]
        dsimp only
        refine wpAny_bind (wpAny_holding (eqN hu (R.key p hm) hx ?_))
        refine wpAny_bind (wpAny_setState_of ho hd R.fits ?_)
        dsimp only
        by_cases hkk : p.2 = k
        · exact wp_if_pos (by simp [hkk]) (wpAny_pure (hin (List.mem_map.mpr ⟨p, hm, hkk⟩)))
        · refine wp_if_neg (by simp [hkk]) ?_
          try refine wpAny_bind (wpAny_pure ?_)
          rw [sameMem]
          dsimp only
          simp only [if_true, hsl, R.at_ hp]
          refine wpAny_bind (wpAny_isSame_ref_self (wpAny_bind (wpAny_pure ?_)))
          simp only [if_true]
          refine wp_if_neg (by simp [hkk]) ?_
          refine ih (c + (q + 1)) _ rfl (by omega) (by omega) fun c' i' p' h1 h2 h3 h4 => ?_
          rcases Nat.lt_trichotomy c' c with z | z | z
          · exact hpast c' i' p' z h2 h3 h4
          all_goals
            rcases Nat.lt_or_ge c' (c + q) with y | y
            · refine hno (c' - c) i' (by omega) (by rw [ej, show c + (c' - c) = c' by omega]; exact h2) ?_
              show (es[i']?.map (·.1)).getD 0 = _
              rw [R.hashAt h3, h4]
            · have ec : c' = c + q := by omega
              rw [ec] at h2
              have s0 := slot_live R.tab.ris h2
              rw [hsl] at s0
              injection s0 with s0
              rw [← s0, hp] at h3
              exact hkk ((congrArg Prod.snd (Option.some.inj h3)).trans h4)
      have hpr' : t.probe (fun i => (es[i]?.map (·.1)).getD 0) (k.hash w) (pst t.mask (k.hash w) c) = some (.candidate (way t.mask (k.hash w) (c + q)) i (pst t.mask (k.hash w) (c + (q + 1)))) := by
        rw [← ej, ← pst_add]
        exact hpr
      rw [hpr']
      dsimp only
      by_cases hl : t.led = true
      · refine wp_if_neg (by simp [hl]) ?_
        try refine wpAny_bind (wpAny_pure ?_)
        exact rest
      · refine wp_if_pos (by simp [hl]) (wpAny_bind (seenN hx (fun y hy => ?_) ?_))
        · obtain ⟨e, he, ee⟩ := List.mem_map.mp hy
          have he1 : e ∈ es ∧ e.1 = k.hash w := by simpa using he
          have he2 : e ∈ es.toList := by simpa using he1.1
          rw [R.rows] at he2
          obtain ⟨p2, hp2, e2⟩ := List.mem_map.mp he2
          exact ⟨p2.2, p2.1, by rw [← ee, ← e2]; rfl, R.key p2 hp2⟩
        · refine wp_if_neg (by decide) ?_
          try refine wpAny_bind (wpAny_pure ?_)
          exact rest
    · have hpr' : t.probe (fun i => (es[i]?.map (·.1)).getD 0) (k.hash w) (pst t.mask (k.hash w) c) = some (.empty (way t.mask (k.hash w) K) none) := by
        have e2 : way t.mask (k.hash w) K = (nth t.mask (pst t.mask (k.hash w) c) (K - c)).j := by rw [ej, eK]
        rw [e2]
        exact hpr
      rw [hpr']
      dsimp only
      refine wpAny_pure (hout fun hm => ?_)
      -- k would stand on the way before K
      obtain ⟨p, hp, hk⟩ := List.mem_map.mp hm
      obtain ⟨i, hi, e⟩ := List.getElem_of_mem hp
      have hLi : L[i]? = some p := by rw [List.getElem?_eq_getElem hi, e]
      have hj : t.place.toList[i]? = some (t.place.toList[i]'(by rw [R.psz]; exact hi)) := List.getElem?_eq_getElem _
      obtain ⟨c', h1, h2⟩ := R.tab.before hK (i := i) (h := k.hash w) (by rw [List.getElem?_map, hLi, ← hk]; rfl) hj
      rw [← h2] at hj
      rcases Nat.lt_or_ge c' c with z | z
      · exact hpast c' i p z hj hLi hk
      · refine hno (c' - c) i (by omega) (by rw [ej, show c + (c' - c) = c' by omega]; exact hj) ?_
        show (es[i]?.map (·.1)).getD 0 = _
        rw [R.hashAt hLi, hk]
theorem find_at (R : NSet w s.heap a L es ep t) {x : Addr} {k : NestedKey} (hx : IsN s.heap k x) (hu : A.units + 8 < cLine) {Q : SetFound → Shared → Prop} (hin : k ∈ L.map (·.2) → Q (.there none) s)
    (hout : ∀ K, k ∉ L.map (·.2) → way t.mask (k.hash w) K ∉ t.place.toList → (∀ c, c < K → way t.mask (k.hash w) c ∈ t.place.toList) → Q (.free (way t.mask (k.hash w) K) false) s) :
    wpAny (model P w) A (setSearch a (.ref x) (k.hash w) true) Q E s := by
  have hroom := R.room
  obtain ⟨K, h1, h2, h3⟩ := R.tab.first (by rw [List.length_map]; omega) (k.hash w)
  have h4 : 10 * SetTable.turns t.mask ≤ 1420 := by
    unfold SetTable.turns
    rcases R.tab.mok with e | e | e <;> omega
  exact find_from R hx hu h1 h2 h3 hin (fun n => hout K n h2 h3) 100000 0 none rfl (Nat.zero_le _) (by omega) fun c' i p h => absurd h (Nat.not_lt_zero _)
end
end NS

set_option Elab.async false
set_option linter.all false
set_option maxRecDepth 100000
set_option maxHeartbeats 4000000
namespace NS
open PySem PySem.Spec L2
open PyProof.Rows hiding St
theorem get_range {α : Type} : ∀ L : List α, (List.range L.length).filterMap (fun i => L[i]?) = L
  | [] => rfl
  | x :: xs => by
    have e : List.filterMap (fun i => (x :: xs)[i]?) (0 :: (List.range xs.length).map Nat.succ) = x :: ((List.range xs.length).map Nat.succ).filterMap (fun i => (x :: xs)[i]?) := List.filterMap_cons_some rfl
    rw [List.length_cons, List.range_succ_eq_map, e, List.filterMap_map]
    exact congrArg (x :: ·) (get_range xs)
theorem IsN.keep {h h' : Heap} {k : NestedKey} {b : Addr} (x : IsN h k b) (hk : ∀ c o, h.get? c = some o → h'.get? c = some o) : IsN h' k b :=
  ⟨NestedIs.at (fun c o vs n e _ => hk c o e) k _ x.1, x.2⟩
theorem IsN.but {h h' : Heap} {k : NestedKey} {a b : Addr} {o : Obj} {es : Array (Int × Value)} {ep : Nat} {t : SetTable} (x : IsN h k b) (ho : h.get? a = some o) (hd : o.data = .set es ep t) (hs : Heap.SameBut a h h') : IsN h' k b := by
  refine ⟨NestedIs.at (fun c u vs n e hc => ?_) k _ x.1, x.2⟩
  have hne : c ≠ a := fun z => by
    subst z
    rw [ho] at e
    cases e
    rw [hd] at hc
    cases hc
  exact (hs.2 c hne).trans e
/-- what laying anew in some order leaves -/
theorem reorder {w : World} (L : List AK) (es : Array (Int × Value)) (order : Array Nat) (hr : es.toList = L.map (row w)) (hp : order.toList.Perm (List.range L.length)) :
    ∃ L2 : List AK, (order.filterMap (es[·]?)).toList = L2.map (row w) ∧ L2.Perm L ∧ (L2.map fun p => p.2.hash w) = order.toList.map fun i => (es.map (·.1)).getD i 0 := by
  have hat : ∀ i, es[i]? = L[i]?.map (row w) := fun i => by rw [← Array.getElem?_toList, hr, List.getElem?_map]
  refine ⟨order.toList.filterMap fun i => L[i]?, ?_, ?_, ?_⟩
  · rw [Array.toList_filterMap, List.map_filterMap]
    exact congrArg (fun f => List.filterMap f order.toList) (funext hat)
  · have h := hp.filterMap fun i => L[i]?
    rwa [get_range] at h
  · have key : ∀ l : List Nat, (∀ i ∈ l, i < L.length) → ((l.filterMap fun i => L[i]?).map fun p => p.2.hash w) = l.map fun i => (es.map (·.1)).getD i 0 := by
      intro l
      induction l with
      | nil => exact fun _ => rfl
      | cons i l ih =>
        intro hl
        have hi := List.getElem?_eq_getElem (hl i List.mem_cons_self)
        rw [List.filterMap_cons_some hi, List.map_cons, List.map_cons, ih fun j hj => hl j (List.mem_cons_of_mem _ hj)]
        have e : (es.map (·.1)).getD i 0 = ((L[i]'(hl i List.mem_cons_self)).2).hash w := by
          rw [Array.getD_eq_getD_getElem?, Array.getElem?_map, hat i, hi]
          rfl
        rw [e]
    exact key _ fun i hi => List.mem_range.mp (hp.mem_iff.mp hi)
section
variable {P : Program} {w : World} {A : Around} {E : Value → Shared → Prop} {s : Shared}
variable {a : Addr} {L : List AK} {es : Array (Int × Value)} {ep : Nat} {t : SetTable}
/-- the table grown -/
theorem grow_at {o : Obj} (ho : s.heap.get? a = some o) (hex : o.ExactSet) (hd : o.data = .set es ep t) (hrows : es.toList = L.map (row w)) (T : TabOk t (L.map fun p => p.2.hash w)) (hfl : L.length ≤ t.mask)
    (nd : (L.map (·.2)).Nodup) (key : ∀ p ∈ L, IsN s.heap p.2 p.1) (pl : t.plain = true) (ld : w.params.followText "set-order" = true ∨ t.led = true) (few : L.length < 64) {wanted M : Nat}
    (hw : SetTable.sizeAbove wanted - 1 = M) (hM : MaskOk M) (hw2 : SetTable.sizeAbove wanted ≤ 128) (hn : L.length * 5 < M * 3) {Q : Unit → Shared → Prop}
    (hQ : ∀ h' L' es' ep' t', Heap.SameBut a s.heap h' → NSet w h' a L' es' ep' t' → L'.Perm L → Q () { s with heap := h' }) : wpAny (model P w) A (setRelay a wanted) Q E s := by
  have hsl : es.size = L.length := by rw [← Array.length_toList, hrows, List.length_map]
  have hps : t.place.size = L.length := by rw [T.sz, List.length_map]
  obtain ⟨t', order, e, hp, T', em, el, epl, ed⟩ := relaid_ok t (hs := es.map (·.1)) (wanted := wanted) hw hM (by rw [Array.size_map, hsl]; omega)
  rw [Array.size_map, hsl] at hp
  obtain ⟨L2, r1, r2, r3⟩ := reorder L es order hrows hp
  rw [← r3] at T'
  have hs2 : (order.filterMap (es[·]?)).size = L.length := by rw [← Array.length_toList, r1, List.length_map, r2.length_eq]
  generalize horder : order.filterMap (es[·]?) = es2 at r1 hs2
  rw [setRelay_eq]
  refine wpAny_bind (wpAny_setState_of ho hd (by rw [hsl]; exact fits_of hps T.dm hfl) ?_)
  dsimp only
  refine wp_if_neg (by rw [sizeLine_eq]; omega) ?_
  try refine wpAny_bind (wpAny_pure ?_)
  rw [e]
  dsimp only
  rw [horder]
  refine wpAny_bind (wp_if_neg (by rw [hs2, hsl]; simp) ?_)
  try refine wpAny_bind (wpAny_pure ?_)
  refine wpAny_pure ?_
  dsimp only
  refine wpAny_storeSet_of ho hd ?_ (by rw [hs2, sizeLine_eq]; omega)
  have sb : Heap.SameBut a s.heap (s.heap.update a (Obj.putSet es2 t')) := Heap.SameBut.update ..
  exact hQ _ L2 es2 (ep + 1) t' sb ⟨⟨_, store_at ho hd, ⟨hex.1, hex.2.1, hex.2.2⟩, rfl⟩, r1, T', (r2.map (·.2)).nodup_iff.mpr nd, fun p hp => (key p (r2.mem_iff.mp hp)).but ho hd sb, by rw [epl]; exact pl, by rw [el]; exact ld, by rw [r2.length_eq, em]; exact hn, by rw [r2.length_eq]; exact few⟩ r2
/-- adding a key -/
theorem add_key (R : NSet w s.heap a L es ep t) {x : Addr} {k : NestedKey} (hx : IsN s.heap k x) (hu : A.units + 8 < cLine) (hfew : L.length + 1 < 64) {Q : Bool → Shared → Prop}
    (hQ : ∀ b h' L' es' ep' t', Heap.SameBut a s.heap h' → NSet w h' a L' es' ep' t' → (if k ∈ L.map (·.2) then L' = L else L'.Perm ((x, k) :: L)) → Q b { s with heap := h' }) :
    wpAny (model P w) A (setAddHashed a (.ref x) (k.hash w)) Q E s := by
  obtain ⟨o, ho, hex, hd⟩ := R.ob
  have hsl := R.size
  have hroom := R.room
  unfold setAddHashed
  refine wpAny_holding ?_
  rw [show (100000 : Nat) = 99999 + 1 from rfl, setAddHashedIn_succ]
  refine wpAny_bind (wpAny_setState_of ho hd R.fits ?_)
  dsimp only
  refine wp_if_neg (by simp [byScan, Value.scannable]) ?_
  try refine wpAny_bind (wpAny_pure ?_)
  refine wpAny_bind (find_at R hx hu (fun hm => ?_) fun K hm hK hb => ?_)
  · dsimp only
    exact wpAny_pure (hQ false s.heap L es ep t (Heap.SameBut.refl a s.heap) R (by rw [if_pos hm]))
  · dsimp only
    refine wpAny_bind (wpAny_setState_of ho hd R.fits ?_)
    dsimp only
    obtain ⟨q1, q2, q3, q4, q5, q6, _, _, q9⟩ := R.tab.put hK hb
    have hp1 := q6.trans R.plain
    generalize hpt : t.put (way t.mask (k.hash w) K) = pt at q1 q3 q4 q5 q9 hp1 ⊢
    obtain ⟨t1, p⟩ := pt
    dsimp only at q1 q3 q4 q5 q9 hp1 ⊢
    subst q1
    first
      | (refine wpAny_bind ?_; refine wp_if_pos hp1 ?_; refine byvN hx ?_)
      | refine wp_if_pos hp1 (wpAny_bind (byvN hx ?_))
    simp only [if_true]
    generalize hpp : SetTable.below t.place (way t.mask (k.hash w) K) = p at q2 q3 ⊢
    -- the rows with the new one among them
    obtain ⟨L1, hL1⟩ : ∃ L1, L1 = L.take p ++ (x, k) :: L.drop p := ⟨_, rfl⟩
    have pm : L1.Perm ((x, k) :: L) := by rw [hL1]; exact put_perm L p (x, k)
    have hlen : L1.length = L.length + 1 := pm.length_eq
    have hin : (SetTable.insertAt es p (k.hash w, Value.ref x)).toList = L1.map (row w) := by
      rw [SetTable.toList_insertAt, R.rows, hL1, List.map_append, List.map_cons, List.map_take, List.map_drop]
      rfl
    have hT : TabOk t1 (L1.map fun p => p.2.hash w) := by
      rw [hL1, List.map_append, List.map_cons, List.map_take, List.map_drop]
      exact q3
    have nd1 : (L1.map (·.2)).Nodup := (pm.map (·.2)).nodup_iff.mpr (by rw [List.map_cons]; exact List.nodup_cons.mpr ⟨hm, R.nd⟩)
    have hes : (SetTable.insertAt es p (k.hash w, Value.ref x)).size = L1.length := by rw [← Array.length_toList, hin, List.length_map]
    have hc : ∀ {L' : List AK}, L'.Perm L1 → (if k ∈ L.map (·.2) then L' = L else L'.Perm ((x, k) :: L)) := fun z => by rw [if_neg hm]; exact z.trans pm
    generalize SetTable.insertAt es p (k.hash w, Value.ref x) = es1 at hin hes ⊢
    refine wpAny_bind (wpAny_storeSet_of ho hd ?_ (by rw [hes, hlen, sizeLine_eq]; omega))
    have sb : Heap.SameBut a s.heap (s.heap.update a (Obj.putSet es1 t1)) := Heap.SameBut.update ..
    have ho1 := store_at (es' := es1) (t' := t1) ho hd
    generalize s.heap.update a (Obj.putSet es1 t1) = h1 at sb ho1 ⊢
    have key1 : ∀ p ∈ L1, IsN h1 p.2 p.1 := fun p hp => by
      rcases List.mem_cons.mp (pm.mem_iff.mp hp) with e | hp
      · rw [e]; exact hx.but ho hd sb
      · exact (R.key p hp).but ho hd sb
    have ld1 : w.params.followText "set-order" = true ∨ t1.led = true := by rw [q5]; exact R.led
    have hfull : t1.tooFull = decide ((L.length + 1) * 5 ≥ t.mask * 3) := by
      unfold SetTable.tooFull
      rw [q9, q4, List.length_map]
    by_cases hf : (L.length + 1) * 5 ≥ t.mask * 3
    · have hf' : t1.tooFull = true := by rw [hfull]; exact decide_eq_true hf
      first
        | (refine wpAny_bind ?_; refine wp_if_pos (by simp [hf']) ?_)
        | (refine wp_if_pos (by simp [hf']) ?_; refine wpAny_bind ?_)
      rw [hsl]
      have go : ∀ M, SetTable.sizeAbove (SetTable.grown (L.length + 1)) - 1 = M → MaskOk M → SetTable.sizeAbove (SetTable.grown (L.length + 1)) ≤ 128 → (L.length + 1) * 5 < M * 3 →
          wpAny (model P w) A (setRelay a (SetTable.grown (L.length + 1))) (fun _ s' => wpAny (model P w) A (pure true) Q E s') E { s with heap := h1 } := fun M g1 g2 g3 g4 =>
        grow_at (s := { s with heap := h1 }) ho1 ⟨hex.1, hex.2.1, hex.2.2⟩ rfl hin hT (by rw [hlen, q4]; omega) nd1 key1 hp1 ld1 (by rw [hlen]; exact hfew) g1 g2 g3 (by rw [hlen]; exact g4) fun h2 L2 es2 ep2 t2 sb2 R2 pm2 =>
          wpAny_pure (hQ true h2 L2 es2 ep2 t2 (sb.trans sb2) R2 (hc pm2))
      rcases R.tab.mok with e | e | e
      · have e4 : L.length = 4 := by rw [e] at hf hroom; omega
        exact go 31 (by rw [e4, size_20]) (.inr (.inl rfl)) (by rw [e4, size_20]; decide) (by omega)
      · have e4 : L.length = 18 := by rw [e] at hf hroom; omega
        exact go 127 (by rw [e4, size_76]) (.inr (.inr rfl)) (by rw [e4, size_76]; decide) (by omega)
      · rw [e] at hf
        omega
    · have hf' : t1.tooFull = false := by rw [hfull]; exact decide_eq_false hf
      first
        | refine wp_if_neg (by simp [hf']) ?_
        | (refine wpAny_bind ?_; refine wp_if_neg (by simp [hf']) ?_; refine wpAny_pure ?_)
      exact wpAny_pure (hQ true h1 L1 es1 (ep + 1) t1 sb ⟨⟨_, ho1, ⟨hex.1, hex.2.1, hex.2.2⟩, rfl⟩, hin, hT, nd1, key1, hp1, ld1, by rw [hlen, q4]; omega, by rw [hlen]; exact hfew⟩ (hc (List.Perm.refl _)))
end
end NS

set_option Elab.async false
set_option linter.all false
set_option maxRecDepth 100000
set_option maxHeartbeats 4000000
namespace NS
open PySem PySem.Spec L2
open PyProof.Rows hiding St
/-- what the set holds once i items are in -/
structure Has (ks : List AK) (i : Nat) (L : List AK) : Prop where
  from_ : ∀ p ∈ L, p ∈ ks
  mem : ∀ k, k ∈ L.map (·.2) ↔ k ∈ (ks.take i).map (·.2)
  len : L.length ≤ i
theorem Has.zero (ks : List AK) : Has ks 0 [] := ⟨fun p h => (by cases h), fun k => (by simp), Nat.le_refl _⟩
theorem Has.next {ks L L' : List AK} {i : Nat} {p : AK} (g : Has ks i L) (h : ks[i]? = some p) (c : if p.2 ∈ L.map (·.2) then L' = L else L'.Perm (p :: L)) : Has ks (i + 1) L' := by
  have e : (ks.take (i + 1)).map (·.2) = (ks.take i).map (·.2) ++ [p.2] := by
    rw [List.take_succ, h, List.map_append]
    rfl
  by_cases hm : p.2 ∈ L.map (·.2)
  · rw [if_pos hm] at c
    subst c
    refine ⟨g.from_, fun k => ?_, Nat.le_succ_of_le g.len⟩
    rw [e, List.mem_append, ← g.mem k, List.mem_singleton]
    exact ⟨.inl, fun z => z.elim id fun z => z ▸ hm⟩
  · rw [if_neg hm] at c
    refine ⟨fun q hq => ?_, fun k => ?_, by rw [c.length_eq]; exact Nat.succ_le_succ g.len⟩
    · rcases List.mem_cons.mp (c.mem_iff.mp hq) with z | z
      · rw [z]; exact List.mem_of_getElem? h
      · exact g.from_ q z
    · rw [(c.map (·.2)).mem_iff, List.map_cons, List.mem_cons, e, List.mem_append, ← g.mem k, List.mem_singleton]
      exact Or.comm
section
variable {P : Program} {w : World} {A : Around} {E : Value → Shared → Prop} {s : Shared}
theorem NSet.keep {h h' : Heap} {a : Addr} {L : List AK} {es : Array (Int × Value)} {ep : Nat} {t : SetTable} (R : NSet w h a L es ep t) (ha : ∀ o, h.get? a = some o → h'.get? a = some o) (ht : ∀ p ∈ L, IsN h' p.2 p.1) : NSet w h' a L es ep t := by
  obtain ⟨o, ho, r⟩ := R.ob
  exact { R with ob := ⟨o, ha o ho, r⟩, key := ht }
theorem NSet.fresh {h : Heap} {a : Addr} (ho : h.get? a = some { cls := .type "set", dict := none, data := .set #[] 0 (.fresh 0 0 (!w.params.followText "set-order")) }) : NSet w h a [] #[] 0 (.fresh 0 0 (!w.params.followText "set-order")) where
  ob := ⟨_, ho, ⟨rfl, rfl, rfl⟩, rfl⟩
  rows := rfl
  tab := ⟨List.Pairwise.nil, rfl, rfl, .inl rfl, fun x hx => (by cases hx), fun i h j hi => (by simp at hi)⟩
  nd := List.nodup_nil
  key := fun p hp => by cases hp
  plain := rfl
  led := by
    show _ ∨ (!w.params.followText "set-order") = true
    cases w.params.followText "set-order"
    · exact .inr rfl
    · exact .inl rfl
  room := by show 0 * 5 < 7 * 3; decide
  few := by show 0 < 64; decide
/-- the loop that puts the items in -/
theorem put_all {I S : Addr} {fp wr : List Addr} {G : Array GenState → Array GenState → Prop} {n : Nat} {Pv : Nat → Value → Prop} {St : Nat → Shared → Prop} {R : Result → Shared → Prop}
    (W : WalksS P w A.in1 I fp wr G n Pv St) (hSf : S ∉ fp) (ks : List AK) (hn : n = ks.length) (hfew : ks.length < 64) (hval : ∀ i v, Pv i v → ∃ p, ks[i]? = some p ∧ v = .ref p.1)
    (h0 : Heap) (hk : ∀ p ∈ ks, IsN h0 p.2 p.1) (hS0 : h0.get? S = none) (hw0 : ∀ b ∈ wr, h0.get? b = none) (hu : A.in1.units + 8 < cLine) :
    ∀ (m i : Nat) (s : Shared), i + m = n → St i s → (∀ b o, h0.get? b = some o → s.heap.get? b = some o) → (∃ L es ep t, NSet w s.heap S L es ep t ∧ Has ks i L) →
      (∀ s' L es ep t, Moved (S :: wr) G s s' → NSet w s'.heap S L es ep t → Has ks n L → (∀ b o, h0.get? b = some o → s'.heap.get? b = some o) → R (.ok (.ret .none)) s') →
      codeAny (model P w) A (.builtin "set.update.loop" ⟨[.ref S, .ref I], []⟩) R s := by
  have hSw : S ∉ wr := fun z => hSf (W.sub _ z)
  have old : ∀ {s s' : Shared}, Moved wr G s s' → (∀ b o, h0.get? b = some o → s.heap.get? b = some o) → ∀ b o, h0.get? b = some o → s'.heap.get? b = some o := fun hm z b o e => hm.heap b o (fun y => by rw [hw0 b y] at e; cases e) (z b o e)
  intro m
  induction m with
  | zero =>
    intro i s hi hst hold ⟨L, es, ep, t, hS, g⟩ hR
    have ei : i = n := hi
    subst ei
    refine codeAny_builtin F.entry_set_update_loop ?_
    rw [Around.under_plainId F.plain_set_update_loop _]
    refine wpAny_bind (m := pyNext (.ref I)) (W.done s _ _ hst fun s' hm => ?_)
    exact wpAny_pure (hR s' L es ep t (hm.mono fun b hb => List.mem_cons_of_mem _ hb) (hS.keep (fun o e => hm.heap S o hSw e) fun p hp => (hk p (g.from_ p hp)).keep (old hm hold)) g (old hm hold))
  | succ m ih =>
    intro i s hi hst hold ⟨L, es, ep, t, hS, g⟩ hR
    have hlt : i < n := by omega
    refine codeAny_builtin F.entry_set_update_loop ?_
    rw [Around.under_plainId F.plain_set_update_loop _]
    refine wpAny_bind (m := pyNext (.ref I)) (W.item i s _ _ hlt hst fun v s' hP hst' hm => ?_)
    obtain ⟨p, hp, rfl⟩ := hval i v hP
    have hold' := old hm hold
    have hS' : NSet w s'.heap S L es ep t := hS.keep (fun o e => hm.heap S o hSw e) fun q hq => (hk q (g.from_ q hq)).keep hold'
    have hx : IsN s'.heap p.2 p.1 := (hk p (List.mem_of_getElem? hp)).keep hold'
    refine wpAny_bind (m := holding [Value.ref p.1] (setAdd S (.ref p.1))) (wpAny_holding ?_)
    unfold setAdd
    refine wpAny_holding (wpAny_bind ((nestedKind P w).pyHash (k := p.2) hu ⟨hx.1, hx.2.1⟩ ?_))
    refine add_key (s := { s' with toks := s'.toks + p.2.draws }) hS' hx hu (by have := g.len; omega) fun b h' L' es' ep' t' hsb hS2 c => ?_
    have hold2 : ∀ b o, h0.get? b = some o → h'.get? b = some o := fun b o e => (hsb.2 b (fun z => by rw [z, hS0] at e; cases e)).trans (hold' b o e)
    have but : ∀ b o, b ≠ S → s'.heap.get? b = some o → h'.get? b = some o := fun b o hb e => (hsb.2 b hb).trans e
    refine wpAny_pure ⟨plainId_quiet F.plain_set_update_loop _, ih (i + 1) _ (by omega) (W.frame _ s' _ _ hst' (Nat.le_add_right _ _) fun b hb o e => but b o (fun z => hSf (z ▸ hb)) e) hold2 ⟨L', es', ep', t', hS2, g.next hp c⟩ fun s'' L2 es2 ep2 t2 hm2 hS3 g3 hold3 => ?_⟩
    exact hR s'' L2 es2 ep2 t2 (Moved.trans W.gtrans ((hm.mono fun b hb => List.mem_cons_of_mem _ hb).then_heap (Nat.le_add_right _ _) fun b o hb e => but b o (fun z => hb (z ▸ List.mem_cons_self)) e) hm2) hS3 g3 hold3
end
end NS

set_option Elab.async false
set_option linter.all false
set_option maxRecDepth 100000
set_option maxHeartbeats 6400000
namespace NS
open PySem PySem.Spec L2
open PyProof.Rows hiding St
/-- a set just made -/
abbrev set0 (w : World) : Obj := { cls := .type "set", dict := none, data := .set #[] 0 (.fresh 0 0 (!w.params.followText "set-order")) }
section
variable {P : Program} {w : World} {A : Around} {E : Value → Shared → Prop} {s : Shared}
theorem none_past {h : Heap} {b : Addr} (hb : h.objs.size ≤ b) : h.get? b = none := by
  cases q : h.get? b with
  | none => rfl
  | some o => exact absurd (Nat.lt_of_lt_of_le (Heap.lt_size q) hb) (Nat.lt_irrefl _)
theorem val_at {items : Array Value} {ks : List AK} (hit : items.toList = ks.map fun p => Value.ref p.1) (i : Nat) (v : Value) (hv : items[i]? = some v) : ∃ p, ks[i]? = some p ∧ v = .ref p.1 := by
  rw [← Array.getElem?_toList, hit, List.getElem?_map] at hv
  obtain ⟨p, h1, h2⟩ := Option.map_eq_some_iff.mp hv
  exact ⟨p, h1, h2.symm⟩
/-- what is known when the set stands -/
def Made (w : World) (s : Shared) (ks : List AK) (s2 : Shared) : Prop := ∃ h' tk L es ep t, s2 = { s with heap := h', toks := tk } ∧ NSet w h' s.heap.objs.size L es ep t ∧ Has ks ks.length L ∧ ∀ b o, s.heap.get? b = some o → h'.get? b = some o
theorem set_of_list {l : Addr} {items : Array Value} (ks : List AK) {Q : Value → Shared → Prop} (hh : A.handled = none) (hl : s.heap.IsList l items) (hit : items.toList = ks.map fun p => Value.ref p.1)
    (hk : ∀ p ∈ ks, IsN s.heap p.2 p.1) (hfew : ks.length < 64) (hu : A.units + 20 < cLine) (h : ∀ s2, Made w s ks s2 → Q (.ref s.heap.objs.size) s2) : wpAny (model P w) A (call (.type "set") [.ref l]) Q E s := by
  have hisz : items.size = ks.length := by rw [← Array.length_toList, hit, List.length_map]
  obtain ⟨c, tl, hmro⟩ := F.called_set.mro
  have hmade := F.called_set.made
  have hsub := F.called_set.sub
  refine wpAny_call (codeAny_of_tree ?_)
  show wpAny _ _ (callAny (.type "set") _) _ _ _
  refine wpAny_pure ⟨Code.quiet_builtin _ (by decide +kernel), codeAny_builtin F.entry_type_call ?_⟩
  rw [Around.under_plain (weight_type_call_type "set" [.ref l] []) rfl]
  have h1 := F.called_set.notType
  have h2 := F.called_set.canCreate
  have hct := F.typeCall_set_1 (.ref l)
  repeat (any_goals (first | assumption | wp_step))
  refine codeAny_mono (code_set_led1 (.ref l) (E := E) (Q₁ := fun obj s₁ => obj = .ref s.heap.objs.size ∧ s₁ = { s with heap := s.heap.push (set0 w) }) ⟨rfl, rfl⟩) fun r s₁ hr => ?_
  cases r with
  | error e => exact hr
  | ok fl =>
    cases fl with
    | ret obj =>
      obtain ⟨rfl, rfl⟩ := hr
      have hS : (s.heap.push (set0 w)).get? s.heap.objs.size = some (set0 w) := Heap.get?_push_size _ rfl
      have hT : Shared.TypeIs { s with heap := s.heap.push (set0 w) } (.ref s.heap.objs.size) "set" := ⟨_, hS, rfl⟩
      have hli := F.called_set.init.lookup
      have hbi := F.called_set.init.bind (.ref s.heap.objs.size)
      repeat (any_goals (first | assumption | wp_step))
      refine codeAny_mono (codeAny_call_builtin (R := wants (fun r s₂ => r = .none ∧ Made w s ks s₂) E) F.called_set.init.plain F.entry_set_init (check_set_init_1 hT ?_)) fun r₂ s₂ hr₂ => ?_
      · obtain ⟨⟨ocls, odict, odata, oslots⟩, hol, hcl, nl, hdl⟩ := hl
        simp only at hcl hdl
        subst hcl; subst hdl
        have hol' : (s.heap.push (set0 w)).get? l = some { cls := .type "list", dict := odict, data := .seq items nl, slots := oslots } := Heap.get?_push_of_some _ hol
        have hsls := F.sub_list_set
        have hslf := F.sub_list_frozenset
        have hne : (Value.type "list" == Value.type "dict") = false := by decide
        have hl1 : (s.heap.push (set0 w)).IsList l items := ⟨_, hol', rfl, nl, rfl⟩
        unfold Builtin.«set.__init__» noKeywords Builtin.Frozenset.updateFrom
        generalize hPI : pyIter = PI
        wp_walk
        subst hPI
        refine wpAny_pyIter_list hl1 (wpAny_bind (wpAny_runValue ?_))
        have hlS : l < s.heap.objs.size := Heap.lt_size hol
        have hz : (s.heap.push (set0 w)).objs.size = s.heap.objs.size + 1 := Heap.size_push ..
        refine put_all (S := s.heap.objs.size) ((Walks.list (A := A.in1.in1.in1) (by simp [hh]) _ l (by rw [hz]; exact Nat.ne_of_lt (Nat.lt_succ_of_lt hlS)) items).toS) (by
            rw [hz]
            intro m
            rcases List.mem_cons.mp m with m | m
            · exact absurd m (Nat.ne_of_lt (Nat.lt_succ_self _))
            · exact absurd (List.mem_singleton.mp m) (Nat.ne_of_gt hlS)) ks hisz hfew (val_at hit) s.heap hk (none_past (Nat.le_refl _)) (fun b hb => none_past (by rw [List.mem_singleton.mp hb, hz]; exact Nat.le_succ _)) (by simp only [Around.in1_units]; omega) items.size 0 _ (Nat.zero_add _)
          ⟨⟨_, Heap.get?_push_size _ rfl, rfl, rfl⟩, hl1.push _⟩ (fun b o e => Heap.get?_push_of_some _ (Heap.get?_push_of_some _ e)) ⟨[], #[], 0, _, NSet.fresh (Heap.get?_push_of_some _ hS), Has.zero ks⟩ fun s' L es ep t hm hN hg hold => ?_
        obtain ⟨h', g2, d', tk', os'⟩ := s'
        obtain rfl : g2 = s.gens := hm.gens
        obtain rfl : d' = s.drawn := hm.drawn
        obtain rfl : os' = s.os := hm.os
        show wpAny _ _ _ _ _ _
        refine wpAny_pure ?_
        show wpAny _ _ (ret Value.none) _ _ _
        rw [hisz] at hg
        exact wpAny_pure ⟨rfl, h', tk', L, es, ep, t, rfl, hN, hg, hold⟩
      · cases r₂ with
        | error e => exact hr₂
        | ok fl₂ =>
          cases fl₂ with
          | ret r =>
            obtain ⟨rfl, hm⟩ := hr₂
            repeat (any_goals (first | assumption | wp_step))
            exact h _ hm
          | _ => exact hr₂.elim
    | _ => exact hr.elim
theorem set_of_tuple {l : Addr} {items : Array Value} (ks : List AK) {Q : Value → Shared → Prop} (hh : A.handled = none) (hl : s.heap.IsTuple l items) (hit : items.toList = ks.map fun p => Value.ref p.1)
    (hk : ∀ p ∈ ks, IsN s.heap p.2 p.1) (hfew : ks.length < 64) (hu : A.units + 20 < cLine) (h : ∀ s2, Made w s ks s2 → Q (.ref s.heap.objs.size) s2) : wpAny (model P w) A (call (.type "set") [.ref l]) Q E s := by
  have hisz : items.size = ks.length := by rw [← Array.length_toList, hit, List.length_map]
  obtain ⟨c, tl, hmro⟩ := F.called_set.mro
  have hmade := F.called_set.made
  have hsub := F.called_set.sub
  refine wpAny_call (codeAny_of_tree ?_)
  show wpAny _ _ (callAny (.type "set") _) _ _ _
  refine wpAny_pure ⟨Code.quiet_builtin _ (by decide +kernel), codeAny_builtin F.entry_type_call ?_⟩
  rw [Around.under_plain (weight_type_call_type "set" [.ref l] []) rfl]
  have h1 := F.called_set.notType
  have h2 := F.called_set.canCreate
  have hct := F.typeCall_set_1 (.ref l)
  repeat (any_goals (first | assumption | wp_step))
  refine codeAny_mono (code_set_led1 (.ref l) (E := E) (Q₁ := fun obj s₁ => obj = .ref s.heap.objs.size ∧ s₁ = { s with heap := s.heap.push (set0 w) }) ⟨rfl, rfl⟩) fun r s₁ hr => ?_
  cases r with
  | error e => exact hr
  | ok fl =>
    cases fl with
    | ret obj =>
      obtain ⟨rfl, rfl⟩ := hr
      have hS : (s.heap.push (set0 w)).get? s.heap.objs.size = some (set0 w) := Heap.get?_push_size _ rfl
      have hT : Shared.TypeIs { s with heap := s.heap.push (set0 w) } (.ref s.heap.objs.size) "set" := ⟨_, hS, rfl⟩
      have hli := F.called_set.init.lookup
      have hbi := F.called_set.init.bind (.ref s.heap.objs.size)
      repeat (any_goals (first | assumption | wp_step))
      refine codeAny_mono (codeAny_call_builtin (R := wants (fun r s₂ => r = .none ∧ Made w s ks s₂) E) F.called_set.init.plain F.entry_set_init (check_set_init_1 hT ?_)) fun r₂ s₂ hr₂ => ?_
      · obtain ⟨⟨ocls, odict, odata, oslots⟩, hol, hcl, nl, hdl⟩ := hl
        simp only at hcl hdl
        subst hcl; subst hdl
        have hol' : (s.heap.push (set0 w)).get? l = some { cls := .type "tuple", dict := odict, data := .seq items nl, slots := oslots } := Heap.get?_push_of_some _ hol
        have hsls := F.sub_tuple_set
        have hslf := F.sub_tuple_frozenset
        have hne : (Value.type "tuple" == Value.type "dict") = false := by decide
        have hl1 : (s.heap.push (set0 w)).IsTuple l items := ⟨_, hol', rfl, nl, rfl⟩
        unfold Builtin.«set.__init__» noKeywords Builtin.Frozenset.updateFrom
        generalize hPI : pyIter = PI
        wp_walk
        subst hPI
        refine wpAny_pyIter_tuple hl1 (wpAny_bind (wpAny_runValue ?_))
        have hlS : l < s.heap.objs.size := Heap.lt_size hol
        have hz : (s.heap.push (set0 w)).objs.size = s.heap.objs.size + 1 := Heap.size_push ..
        refine put_all (S := s.heap.objs.size) ((Walks.tuple (A := A.in1.in1.in1) (by simp [hh]) _ l (by rw [hz]; exact Nat.ne_of_lt (Nat.lt_succ_of_lt hlS)) items).toS) (by
            rw [hz]
            intro m
            rcases List.mem_cons.mp m with m | m
            · exact absurd m (Nat.ne_of_lt (Nat.lt_succ_self _))
            · exact absurd (List.mem_singleton.mp m) (Nat.ne_of_gt hlS)) ks hisz hfew (val_at hit) s.heap hk (none_past (Nat.le_refl _)) (fun b hb => none_past (by rw [List.mem_singleton.mp hb, hz]; exact Nat.le_succ _)) (by simp only [Around.in1_units]; omega) items.size 0 _ (Nat.zero_add _)
          ⟨⟨_, Heap.get?_push_size _ rfl, rfl, rfl⟩, hl1.push _⟩ (fun b o e => Heap.get?_push_of_some _ (Heap.get?_push_of_some _ e)) ⟨[], #[], 0, _, NSet.fresh (Heap.get?_push_of_some _ hS), Has.zero ks⟩ fun s' L es ep t hm hN hg hold => ?_
        obtain ⟨h', g2, d', tk', os'⟩ := s'
        obtain rfl : g2 = s.gens := hm.gens
        obtain rfl : d' = s.drawn := hm.drawn
        obtain rfl : os' = s.os := hm.os
        show wpAny _ _ _ _ _ _
        refine wpAny_pure ?_
        show wpAny _ _ (ret Value.none) _ _ _
        rw [hisz] at hg
        exact wpAny_pure ⟨rfl, h', tk', L, es, ep, t, rfl, hN, hg, hold⟩
      · cases r₂ with
        | error e => exact hr₂
        | ok fl₂ =>
          cases fl₂ with
          | ret r =>
            obtain ⟨rfl, hm⟩ := hr₂
            repeat (any_goals (first | assumption | wp_step))
            exact h _ hm
          | _ => exact hr₂.elim
    | _ => exact hr.elim
end
end NS

set_option Elab.async false
set_option linter.all false
set_option maxRecDepth 100000
set_option maxHeartbeats 4000000
namespace Mp
open PySem PySem.Spec L2
open PyProof.Rows hiding St

/-! ### len(set(xs)), xs of nested tuples -/
def D.key : D → Option NestedKey
  | .non => some .none
  | .bl b => some (.num (if b = true then 1 else 0))
  | .int i => some (.num i)
  | .tup xs => (keys xs).map .tup
  | _ => none
where keys : List D → Option (List NestedKey)
  | [] => some []
  | d :: ds => match d.key, keys ds with
    | some a, some b => some (a :: b)
    | _, _ => none
def D.isTup : D → Bool
  | .tup _ => true
  | _ => false
def dcount : List NestedKey → Nat
  | [] => 0
  | k :: ks => if k ∈ ks then dcount ks else dcount ks + 1
def setLenL (xs : List D) : Option D := if xs.length < 64 ∧ (xs.all D.isTup) = true then
    match D.key.keys xs with
    | some ks => if ks.all (fun k => decide (k.depth ≤ 8) && NS.nt k) then some (.int (dcount ks : Nat)) else none
    | none => none
  else none
def setLenO : O1 := fun x _ => match x with
  | .tup xs => setLenL xs
  | .lst xs => setLenL xs
  | _ => none
theorem dcount_of : ∀ (ys xs : List NestedKey), xs.Nodup → (∀ k, k ∈ xs ↔ k ∈ ys) → xs.length = dcount ys
  | [], xs, _, h => by
    cases xs with
    | nil => rfl
    | cons x xs => exact absurd ((h x).mp List.mem_cons_self) (by simp)
  | y :: ys, xs, nd, h => by
    unfold dcount
    by_cases c : y ∈ ys
    · rw [if_pos c]
      refine dcount_of ys xs nd fun k => ?_
      rw [h k, List.mem_cons]
      exact ⟨fun z => z.elim (fun e => e ▸ c) id, .inr⟩
    · rw [if_neg c]
      have hy : y ∈ xs := (h y).mpr List.mem_cons_self
      have ih := dcount_of ys (xs.erase y) (nd.erase y) fun k => by
        rw [nd.mem_erase_iff, h k, List.mem_cons]
        exact ⟨fun z => z.2.elim (fun e => absurd e z.1) id, fun z => ⟨fun e => c (e ▸ z), .inr z⟩⟩
      have e := List.length_erase_of_mem hy
      have hp : 0 < xs.length := List.length_pos_of_mem hy
      omega
section
variable {X : Cx} {lt : Nat → LamI} {pins : List (Addr × Obj)} {σ : L2.St} {H F : Hp} {φ : List Addr} {s : Shared}
mutual
theorem key_is (I : Inv X pins σ H s) (sub : ∀ a o, F a = some o → H a = some o) : ∀ (d : D) (v : V) (k : NestedKey) (u : Value), RV ⟨X.K, lt⟩ F φ d v → d.key = some k → RelV v u → NestedIs s.heap k u
  | .non, _, _, _, .non, e, r => by
    cases e
    cases r
    exact .none
  | .bl b, _, _, _, .bl _, e, r => by
    cases e
    cases r
    exact .bool rfl
  | .int i, _, _, _, .int _, e, r => by
    cases e
    obtain ⟨t, rfl⟩ := r
    exact .int i t
  | .tup ds, _, k, u, .tup h1 h2, e, r => by
    unfold D.key at e
    cases z : D.key.keys ds with
    | none => rw [z] at e; cases e
    | some ks =>
      rw [z] at e
      cases e
      obtain ⟨its, rv, ⟨o, ho, hc, n, hd⟩, _⟩ := I.tuple (SqT.up sub h1)
      cases r
      exact .tup ho hc hd (by simpa using keys_are I sub ds _ ks its h2 z rv)
  | .str _, _, _, _, _, e, _ => by cases e
  | .lst _, _, _, _, _, e, _ => by cases e
  | .scr _, _, _, _, _, e, _ => by cases e
  | .dct, _, _, _, _, e, _ => by cases e
  | .ref _, _, _, _, _, e, _ => by cases e
  | .obj _, _, _, _, _, e, _ => by cases e
  | .clo _ _, _, _, _, _, e, _ => by cases e
theorem keys_are (I : Inv X pins σ H s) (sub : ∀ a o, F a = some o → H a = some o) : ∀ (ds : List D) (vs : List V) (ks : List NestedKey) (us : List Value), RVs ⟨X.K, lt⟩ F φ ds vs → D.key.keys ds = some ks → Vals vs us → NestedAll s.heap ks us
  | [], _, _, _, .nil, e, r => by
    cases e
    cases r
    exact .nil
  | d :: ds, _, ks, _, .cons q1 q2, e, r => by
    unfold D.key.keys at e
    cases z : d.key with
    | none => rw [z] at e; cases e
    | some a =>
      cases z2 : D.key.keys ds with
      | none => rw [z, z2] at e; cases e
      | some b =>
        rw [z, z2] at e
        cases e
        cases r with
        | cons r1 r2 => exact .cons (key_is I sub d _ a _ q1 z r1) (keys_are I sub ds _ b _ q2 z2 r2)
end
theorem refs_are (I : Inv X pins σ H s) (sub : ∀ a o, F a = some o → H a = some o) : ∀ (ds : List D) (vs : List V) (ks : List NestedKey) (us : List Value), RVs ⟨X.K, lt⟩ F φ ds vs → ds.all D.isTup = true → D.key.keys ds = some ks → Vals vs us →
    ∃ as : List NS.AK, us = as.map (fun p => Value.ref p.1) ∧ as.map (·.2) = ks ∧ ∀ p ∈ as, NestedIs s.heap p.2 (.ref p.1)
  | [], _, _, _, .nil, _, e, r => by
    cases e
    cases r
    exact ⟨[], rfl, rfl, by simp⟩
  | d :: ds, _, ks, _, .cons q1 q2, t, e, r => by
    unfold D.key.keys at e
    cases z : d.key with
    | none => rw [z] at e; cases e
    | some a =>
      cases z2 : D.key.keys ds with
      | none => rw [z, z2] at e; cases e
      | some b =>
        rw [z, z2] at e
        cases e
        rw [List.all_cons, Bool.and_eq_true] at t
        cases r with
        | cons r1 r2 =>
          obtain ⟨as, e1, e2, e3⟩ := refs_are I sub ds _ b _ q2 t.2 z2 r2
          have hk := key_is I sub d _ a _ q1 z r1
          cases d with
          | tup ds' =>
            cases q1
            cases r1
            refine ⟨(_, a) :: as, by rw [List.map_cons, ← e1], by rw [List.map_cons, e2], fun p hp => ?_⟩
            rcases List.mem_cons.mp hp with y | y
            · rw [y]; exact hk
            · exact e3 p y
          | _ => exact nomatch t.1
end
section
variable {X : Cx} {lt : Nat → LamI} {p : Pm ⟨X.K, lt⟩} {a : Expr} {pos pf p2 q : Pos} {fa : M D}
theorem x_lenset (hm : X.mg "len" = none) (hm2 : X.mg "set" = none) (hu : X.A.units + 65 < cLine) (ha : PE X a (tP p fa)) (hg : X.env.kindOf "len" = some .globalImplicit := by kernel_rfl) (hg2 : X.env.kindOf "set" = some .globalImplicit := by kernel_rfl) (hc : X.calm = true := by rfl)
    (na : starEach [a] X.env = (false, eval a X.env) :: starEach [] X.env := by rfl) : PE X (.Call (.Name "len" pf) [.Call (.Name "set" p2) [a] [] q] [] pos) (tD p (op1 setLenO fa)) := by
  refine ⟨fun pins s σ H Q I h => ?_⟩
  refine Call_ (ld_blt I hg hm PySem.boot_len ?_)
  refine PyProof.Rows.callWith_builtin1 (PyProof.Rows.args_cons ?_ rfl) rfl rfl
  refine Call_ (ld_blt I hg2 hm2 PyProof.Rows.boot_set ?_)
  refine PyProof.Rows.callWith_type1 (PyProof.Rows.args_cons (thn (ha.run pins s σ H _ I (seqP preV h)) fun v s1 ⟨x, H1, I1, r1, g1, s1', d, rs1, rv, q1⟩ => PyProof.Rows.args_nil ?_) na) na rfl
  obtain ⟨d', ho, f⟩ := ap1_fin q1
  have fin : ∀ (l : Addr) (ds : List D) (vs : List V) (its : List Value), v = .ref l → RVs ⟨X.K, lt⟩ g1.F g1.φ ds vs → Vals vs its → setLenL ds = some d' →
      (∀ (ks : List NS.AK) (Q' : Value → Shared → Prop), its = ks.map (fun p => Value.ref p.1) → (∀ p ∈ ks, NS.IsN s1.heap p.2 p.1) → ks.length < 64 → (∀ s2, NS.Made X.w s1 ks s2 → Q' (.ref s1.heap.objs.size) s2) → wpAny (model X.prog X.w) X.A (call (.type "set") [.ref l]) Q' X.xe s1) →
      wpAny (model X.prog X.w) X.A (call (.type "set") [v]) (fun v s => wpAny (model X.prog X.w) X.A (spliced (backTo q (starEach [] X.env))) (fun vs s => wpAny (model X.prog X.w) X.A (call (.builtin "len") (v :: vs)) (EP X pins σ Q) X.xe s) X.xe s) X.xe s1 := by
    intro l ds vs its ev h2 rvs hs hcall
    subst ev
    unfold setLenL at hs
    split at hs
    · rename_i hc
      split at hs
      · rename_i ks hks
        split at hs
        · rename_i hall
          cases hs
          obtain ⟨as, e1, e2, e3⟩ := refs_are I1 rs1.m.sub ds vs ks its h2 hc.2 hks rvs
          have hl : as.length = ds.length := by
            have a1 := congrArg List.length e1
            rw [List.length_map] at a1
            rw [← a1, ← rvs.length, h2.length]
          refine hcall as _ e1 (fun p hp => ?_) (by rw [hl]; exact hc.1) fun s2 hm => ?_
          · have hk := List.all_eq_true.mp hall p.2 (by rw [← e2]; exact List.mem_map.mpr ⟨p, hp, rfl⟩)
            rw [Bool.and_eq_true, decide_eq_true_eq] at hk
            exact ⟨e3 p hp, hk.1, hk.2⟩
          · obtain ⟨h', tk, L, es, ep, t, rfl, R, g, hold⟩ := hm
            have hn : L.length = dcount ks := by
              have := dcount_of ks (L.map (·.2)) R.nd fun k => by rw [g.mem k, List.take_length, e2]
              rwa [List.length_map] at this
            obtain ⟨o, hob, hex, hd⟩ := R.ob
            refine PyProof.Rows.args_nil ?_
            have I2 : Inv X pins σ H1 { s1 with heap := h', toks := tk } := I1.kept hold
            have hsz := NS.NSet.size (s := { s1 with heap := h', toks := tk }) R
            refine call_len_set hob hex hd (NS.NSet.fits (s := { s1 with heap := h', toks := tk }) R) (by have := R.few; omega) ⟨.int (dcount ks : Nat), H1, I2.tok _, ⟨_, by rw [hsz, hn]⟩, f.now rs1 (.int _)⟩
        · cases hs
      · cases hs
    · cases hs
  have hd := I1.ok.hd hc
  unfold setLenO at ho
  split at ho
  · obtain ⟨l, vs, rfl, h1, h2⟩ := rv.tup rs1.m
    cases r1
    obtain ⟨its, rvs, hT, _⟩ := I1.tuple h1
    exact fin l _ vs its rfl h2 rvs ho fun ks Q' e hk hf hq => NS.set_of_tuple ks hd hT (by simpa using e) hk hf (by omega) hq
  · obtain ⟨l, vs, rfl, h1, h2⟩ := rv.lst rs1.m
    cases r1
    obtain ⟨its, rvs, pl, _⟩ := I1.list (SqL.of h1)
    exact fin l _ vs its rfl h2 rvs ho fun ks Q' e hk hf hq => NS.set_of_list ks hd pl.isList (by simpa using e) hk hf (by omega) hq
  · cases ho
end
end Mp

set_option Elab.async false
set_option linter.all false
set_option maxRecDepth 100000
set_option maxHeartbeats 4000000
namespace Mp
open PySem PySem.Spec L2
open PyProof.Rows hiding St

/-! ### what the head has left -/
theorem fun_get {K : PySem.W.Frag} {h : Heap} {mg : Str → Option Value} {x : Str} {st : Stmt} {f : Addr} {oc : Value} {od an : Option Addr} {osl : Array (Option Value)} {kV doc pm cdv ct : Value} (X : K.In h) (G : h.Ns mainGlobals mg)
    (a : PySem.W.nsIn K mainGlobals x = some (some (.ref f))) (l : K.lookup f = some ⟨oc, od, .func (PySem.W.fnOf x x (defArgs st) (defBody st) (defScope st) .none kV doc pm an cdv ct), osl⟩)
    (c : PySem.W.codeIn K cdv x = true) (k : PySem.W.keepIn K (.ref f) = true) : ∃ f fd, Fun K x x st f fd ∧ mg x = some (.ref f) := ⟨f, _, fun_mk l c k, PySem.W.mg_of X G a⟩
theorem ref_inj {a b : Addr} (h : some (Value.ref a) = some (Value.ref b)) : a = b := by cases h; rfl
theorem gint_get {K : PySem.W.Frag} {h : Heap} {mg : Str → Option Value} {x : Str} {i : Int} {t : Tok} (X : K.In h) (G : h.Ns mainGlobals mg) (a : PySem.W.nsIn K mainGlobals x = some (some (.int i t))) : ∃ t, mg x = some (.int i t) := ⟨t, PySem.W.mg_of X G a⟩
theorem gstr_get {K : PySem.W.Frag} {h : Heap} {mg : Str → Option Value} {x : Str} {i : Str} {t : Tok} (X : K.In h) (G : h.Ns mainGlobals mg) (a : PySem.W.nsIn K mainGlobals x = some (some (.str i t))) : ∃ t, mg x = some (.str i t) := ⟨t, PySem.W.mg_of X G a⟩
/-- data that lies in the written part itself -/
inductive Val0 : D → V → Value → Prop
  | non : Val0 .non .non .none
  | bl (b : Bool) : Val0 (.bl b) (.bl b) (.bool b)
  | int (i : Int) (t : Tok) : Val0 (.int i) (.int i) (.int i t)
  | str (x : Str) (t : Tok) : Val0 (.str x) (.str x) (.str x t)
inductive Vals0 : List D → List V → List Value → Prop
  | nil : Vals0 [] [] []
  | cons {d v u ds vs us} : Val0 d v u → Vals0 ds vs us → Vals0 (d :: ds) (v :: vs) (u :: us)
theorem Vals0.vals : ∀ {ds : List D} {vs : List V} {us : List Value}, Vals0 ds vs us → Vals vs us
  | _, _, _, .nil => .nil
  | _, _, _, .cons h t => .cons (by
      cases h with
      | non => rfl
      | bl b => rfl
      | int i t => exact ⟨t, rfl⟩
      | str x t => exact ⟨t, rfl⟩) t.vals
theorem Vals0.rvs {K : Kx} {F : Hp} {φ : List Addr} : ∀ {ds : List D} {vs : List V} {us : List Value}, Vals0 ds vs us → RVs K F φ ds vs
  | _, _, _, .nil => .nil
  | _, _, _, .cons h t => .cons (by
      cases h with
      | non => exact .non
      | bl b => exact .bl b
      | int i t => exact .int i
      | str x t => exact .str x) t.rvs
theorem gtup_get {K : PySem.W.Frag} {h : Heap} {mg : Str → Option Value} {x : Str} {ds : List D} {vs : List V} {a : Addr} {od : Option Addr} {its : Array Value} {n : Nat} {sl : Array (Option Value)} (X : K.In h) (G : h.Ns mainGlobals mg) (e : PySem.W.nsIn K mainGlobals x = some (some (.ref a)))
    (l : K.lookup a = some ⟨.type "tuple", od, .seq its n, sl⟩) (c : Vals0 ds vs its.toList ∧ its.size ≤ 100) : GTup K mg x ds :=
  ⟨a, vs, PySem.W.mg_of X G e, fun F => .inr ⟨_, its, n, l, rfl, rfl, Nat.le_trans c.2 (by decide), c.1.vals⟩, fun lt F φ => c.1.rvs⟩
theorem gtup_get2 {K : PySem.W.Frag} {h : Heap} {mg : Str → Option Value} {x : Str} {i j : Int} {t t' : Tok} {a : Addr} {od : Option Addr} {n : Nat} {sl : Array (Option Value)} (X : K.In h) (G : h.Ns mainGlobals mg) (e : PySem.W.nsIn K mainGlobals x = some (some (.ref a)))
    (l : K.lookup a = some ⟨.type "tuple", od, .seq #[.int i t, .int j t'] n, sl⟩) : GTup K mg x [.int i, .int j] :=
  gtup_get (vs := [.int i, .int j]) X G e l ⟨.cons (.int i t) (.cons (.int j t') .nil), show 2 ≤ 100 by decide⟩
/-- a lambda of no text -/
def lam0 : LamI := ⟨"", { kind := .function, names := [], isGenerator := false, isCoroutine := false }, { posonlyargs := [], args := [], vararg := none, kwonlyargs := [], kw_defaults := [], kwarg := none, defaults := [] }, .Constant .none 0 ⟨0, 0, 0, 0⟩, { kind := .function, names := [], isGenerator := false, isCoroutine := false }, 0⟩
end Mp

set_option Elab.async false
set_option linter.all false
set_option maxRecDepth 100000
set_option maxHeartbeats 4000000
namespace Mp
open PySem PySem.Spec L2
open PyProof.Rows hiding St
/-! ### raise C(e), C over ValueError, its __init__ keeping one value -/
/-- what an __init__ that keeps its one argument under f promises -/
def spI (K : PySem.W.Frag) (f : Str) : Sp := fun vs H Q E => ∃ (a C : Addr) (y : V), vs = [.ref a, y] ∧ OexC K C ∧ PySem.W.findIn K (.ref C) f = some none ∧ H a = some (exo a C none) ∧
  ∀ dx, H dx = none → dx ≠ a → Q .non (upd (upd H dx (exd dx [(f, y)])) a (exo a C (some dx)))
/-- a def of a class, its defaults whatever they are -/
structure FunI (K : PySem.W.Frag) (x qual : Str) (st : Stmt) (f : Addr) (fd : FuncData) : Prop where
  ex : ∃ (oc : Value) (od : Option Addr) (dV kV doc pm : Value) (an : Option Addr) (cdv ct : Value) (osl : Array (Option Value)), fd = PySem.W.fnOf x qual (defArgs st) (defBody st) (defScope st) dV kV doc pm an cdv ct ∧ K.lookup f = some ⟨oc, od, .func fd, osl⟩ ∧ PySem.W.codeIn K cdv qual = true
theorem init_one {CX : CXT} {P : Program} {w : World} {K : PySem.W.Frag} {mg : Str → Option Value} {base : Heap} {k : Nat} {x qual v f : Str} {st : Stmt} {fI : Addr} {fd : FuncData} {p1 p2 p3 pos : Pos} (F : FunI K x qual st fI fd) (S : FnScope ["self", v] ["self", v] (defScope st))
    (hb : defBody st = [.Assign [.Attribute (.Name "self" p1) f p2] (.Name v p3) pos]) (v1 : Vis (defScope st) "self") (v2 : Vis (defScope st) v) (hd : (v == ("__debug__" : Str)) = false := by decide) (hcl : (v == ("__classdict__" : Str)) = false := by decide) : FnOk P w K mg base CX (k + 1) fI fd ["self", v] (spI K f) := by
  obtain ⟨oc, od, dV, kV, doc, pm, an, cdv, ct, osl, rfl, lk, hcd⟩ := F.ex
  refine fn_of lk hcd S (fun vs H Q E ⟨a, C, y, e, _⟩ => by rw [e]; rfl) fun A outer s H vs Q E hr ⟨a, C, y, e, T, hno, ha, q⟩ => ?_
  subst e
  refine ⟨tOst K f (tVar 0) (tVar 1), ?_, ?_⟩
  · rw [show defBody st = _ from hb]
    exact pss_one (ps_ost (pe_var (i := 0) rfl v1) (pe_var (i := 1) rfl v2 hd hcl))
  · exact ⟨y, rfl, .ref a, rfl, a, C, rfl, T, hno, .inl ⟨ha, fun dx h1 h2 => q dx h1 h2⟩⟩
/-- an __init__ as a raise needs it: f is what it keeps, v its parameter -/
structure InitK (K : PySem.W.Frag) (f v : Str) (fI : Addr) : Prop where
  ex : ∃ (fd : FuncData), Binds K fd ["self", v] [] ∧ ∀ (P : Program) (w : World) (mg : Str → Option Value) (base : Heap), FnOk P w K mg base C8.CX0 1 fI fd ["self", v] (spI K f)
theorem initK_mk {K : PySem.W.Frag} {x qual v f : Str} {st : Stmt} {fI : Addr} {fd : FuncData} {p1 p2 p3 pos : Pos} (F : FunI K x qual st fI fd) (S : FnScope ["self", v] ["self", v] (defScope st))
    (hb : defBody st = [.Assign [.Attribute (.Name "self" p1) f p2] (.Name v p3) pos]) (hB : Binds K fd ["self", v] []) (v1 : Vis (defScope st) "self") (v2 : Vis (defScope st) v) (hd : (v == ("__debug__" : Str)) = false := by decide) (hcl : (v == ("__classdict__" : Str)) = false := by decide) : InitK K f v fI :=
  ⟨fd, hB, fun P w mg base => init_one F S hb v1 v2 hd hcl⟩
/-- what the written part says of a class that is raised -/
structure RaK (K : PySem.W.Frag) (mg : Str → Option Value) (x f v : Str) (C fI : Addr) : Prop where
  T : OexC K C
  iC : PySem.W.findIn K (.ref C) "__init__" = some (some (.ref fI))
  tI : PySem.W.typeIn K (.ref fI) = some (.type "function")
  no : PySem.W.findIn K (.ref C) f = some none
  g : mg x = some (.ref C)
  I : InitK K f v fI
end Mp

set_option Elab.async false
set_option linter.all false
set_option maxRecDepth 100000
set_option maxHeartbeats 4000000
namespace Mp
open PySem PySem.Spec L2
open PyProof.Rows hiding St
/-- raise C(e): the class by its number -/
def raise1 (j : Nat) (f : Str) (fa : M D) : M Fl := bnd fa fun d s => .err (.ref j) [(f, d)] s
section
variable {X : Cx} {lt : Nat → LamI} {p : Pm ⟨X.K, lt⟩} {e : Expr} {pos p1 p2 : Pos} {fa : M D} {fI : Addr} {j k : Nat} {x v f : Str}
theorem s_raise1 (T : RaK X.K X.mg x f v (lt j).cls fI) (hr : Room (k + 2) X.A) (tk : Takes X p.W) (ha : PE X e (tD p fa)) (hc : X.calm = true := by rfl) (hg : X.env.kindOf x = some .globalImplicit := by kernel_rfl) (hdb : (x == ("__debug__" : Str)) = false := by kernel_rfl)
    (he : starEach [e] X.env = (false, eval e X.env) :: starEach [] X.env := by rfl) (hpl : (backTo p2 (starEach [] X.env)).any (·.1) = false := by rfl) :
    PS X (.Raise (some (.Call (.Name x p1) [e] [] p2)) none pos) (tS p (raise1 j f fa)) := by
  obtain ⟨fd, hb, F1⟩ := T.I.ex
  refine (ps_raise hc tk (pmk_oex (ds := []) (dvs := []) T.T T.iC T.tI (F1 X.prog X.w X.mg X.base) (hr.mono (Nat.le_add_left 2 k)) hb .nil (fun _ _ _ _ _ _ _ z => (show False from z).elim) hg T.g (pa_cons ha pa_nil he) hdb he hpl)).imp fun D σ H ⟨g, s, r, q⟩ => ?_
  refine ⟨g, s, r, Post.mono (PstS.bnd (A := AV ⟨X.K, lt⟩) q) fun y H1 ⟨g1, s1, d, r1, e1, a1, q1⟩ => ?_⟩
  refine ⟨by simp, fun a hna => ⟨a, (lt j).cls, y, rfl, T.T, T.no, upd_same, fun dx h1 h2 => ⟨rfl, dx, [(f, y)], upd_same, ?_, ?_, ?_⟩⟩⟩
  · rw [upd_ne h2, upd_same]
  · rwa [upd_ne h2] at h1
  · have hd : H1 dx = none := by rwa [upd_ne h2] at h1
    have eq : upd (del (upd (upd (upd H1 a (exo a (lt j).cls none)) dx (exd dx [(f, y)])) a (exo a (lt j).cls (some dx))) a) dx (.xd [(f, y)]) = upd H1 dx (.xd [(f, y)]) := by
      funext b
      by_cases hb : b = dx
      · rw [hb, upd_same, upd_same]
      · rw [upd_ne hb, upd_ne hb]
        by_cases hba : b = a
        · rw [hba, del_same, hna]
        · rw [del_ne hba, upd_ne hba, upd_ne hb, upd_ne hba]
    rw [eq]
    refine q1 σ _ _ (some dx) (r1.add hd _) (r1.addE hd _).s ⟨[y], upd_same, .cons (RV.up (r1.m.addUp hd _) ⟨[], by simp [G.add]⟩ _ _ a1) .nil, fun z => ?_, fun i z => ?_⟩
    · obtain ⟨n, hn⟩ := List.mem_iff_getElem?.mp (show dx ∈ g1.φ from z)
      have hlen : n < s1.ms.length := by rw [r1.m.mlen]; exact (List.getElem?_eq_some_iff.mp hn).1
      obtain ⟨vs, h3, _⟩ := r1.m.mem n dx _ hn (List.getElem?_eq_getElem hlen)
      rw [hd] at h3
      cases h3
    · obtain ⟨ds, h3⟩ := r1.f.is i dx z
      obtain ⟨b, vs, h4, _, h5, _⟩ := r1.f.own i ds h3
      rw [show g1.ω i = some dx from z] at h4
      cases h4
      rw [hd] at h5
      cases h5
end
end Mp

set_option Elab.async false
set_option linter.all false
set_option maxRecDepth 100000
set_option maxHeartbeats 4000000
namespace Mp
open PySem PySem.Spec L2
open PyProof.Rows hiding St
/-! ### try with several clauses, each with a name or without -/
abbrev Cls := Value × Option Nat × (Addr → Value → Option Addr → TS)
/-- the ends of a suite whose name goes -/
def endU (i : Nat) (D : Ends) : Ends := { nx := fun σ H => D.nx (σ.set i none) H, rt := D.rt, bk := fun σ H => D.bk (σ.set i none) H, ct := fun σ H => D.ct (σ.set i none) H }
def wMulti (K : PySem.W.Frag) (Wout : WX) (D : Ends) : List Cls → WX
  | [] => Wout
  | (c, none, ts) :: r => fun cls d σ H => ∃ b, PySem.W.exmOne K cls c = some b ∧ (b = true → ∀ q, H q = none → ts q cls d D σ H) ∧ (b = false → wMulti K Wout D r cls d σ H)
  | (c, some i, ts) :: r => fun cls d σ H => ∃ b, PySem.W.exmOne K cls c = some b ∧ (b = true → ∀ q, H q = none → ts q cls d (endU i D) (σ.set i (some (.ref q))) H) ∧ (b = false → wMulti K Wout D r cls d σ H)
inductive HdsM (X : Cx) : List ExceptHandler → List Cls → Prop
  | nil : HdsM X [] []
  | bare {x : Str} {c : Value} {ts : Addr → Value → Option Addr → TS} {f : Stmt} {fs : List Stmt} {np hp : Pos} {hds : List ExceptHandler} {l : List Cls} (hc : Names X x c)
      (hsu : ∀ (q : Addr) (ob : Obj) (cls : Value) (d : Option Addr) (pn : List (Addr × Obj)), Zc cls d ob → (∃ us, ob.data = .fields us) → PSs (X.suite q ((q, ob) :: pn)) (f :: fs) (ts q cls d)) (r : HdsM X hds l) :
      HdsM X (.ExceptHandler (some (.Name x np)) none (f :: fs) hp :: hds) ((c, none, ts) :: l)
  | named {x n : Str} {i : Nat} {c : Value} {ts : Addr → Value → Option Addr → TS} {f : Stmt} {fs : List Stmt} {np hp : Pos} {hds : List ExceptHandler} {l : List Cls} (hi : X.N[i]? = some n) (hln : X.env.kindOf n = some .local) (hc : Names X x c)
      (hsu : ∀ (q : Addr) (ob : Obj) (cls : Value) (d : Option Addr) (pn : List (Addr × Obj)), Zc cls d ob → (∃ us, ob.data = .fields us) → PSs (X.suite q ((q, ob) :: pn)) (f :: fs) (ts q cls d)) (r : HdsM X hds l) :
      HdsM X (.ExceptHandler (some (.Name x np)) (some n) (f :: fs) hp :: hds) ((c, some i, ts) :: l)
section
variable {X : Cx} {body : List Stmt} {k0 : ExceptHandler} {ks : List ExceptHandler} {l : List Cls} {pos : Pos} {tb : WX → TS} {Wout : WX}
theorem ps_try_multi (hs : X.stack = X.env :: X.outer) (hf : X.env.frame = some X.env.locals) (hN : X.N.Nodup) (tk : Takes X Wout)
    (hb : ∀ (U : WX) (pn : List (Addr × Obj)) (xe : Value → Shared → Prop), Takes (X.tr pn xe) U → PassesOwn (model X.prog X.w) X.A X.env xe → PSs (X.tr pn xe) body (tb U))
    (hh : HdsM X (k0 :: ks) l) : PS X (.Try body (k0 :: ks) [] [] pos) (fun D σ H => tb (wMulti X.K Wout D l) D σ H) := by
  refine ⟨fun pins s σ H D I h => ?_⟩
  have ok := I.ok
  have hfra : X.A.frames = some (X.env :: X.outer) := ok.frames.trans (congrArg some hs)
  have body' := (hb (wMulti X.K Wout D l) (X.pn ++ pins) (fun e t => wpAny (model X.prog X.w) X.A (noteFrame e X.env) (fun _ t => wpAny (model X.prog X.w) X.A (setFlight e none) (fun _ t => wpAny (model X.prog X.w) X.A (handleBy e X.env (k0 :: ks)) (SP X pins D) X.xe t) X.xe t) X.xe t)
    (fun u t' xx => ?_) PassesOwn.looking).run [] s σ H D (I.toTry _) h
  · refine wpAny_Try_except (wpAny_mono body' (fun fl t' got => ?_) fun e t' he => he)
    cases fl with
    | next =>
      obtain ⟨τ, G, J, q⟩ := got
      exact wpAny_execs_nil ⟨τ, G, J.ofTry ok, q⟩
    | ret u =>
      obtain ⟨v, τ, G, J, r, q⟩ := got
      exact ⟨v, τ, G, J.ofTry ok, r, q⟩
    | brk =>
      obtain ⟨τ, G, J, q⟩ := got
      exact ⟨τ, G, J.ofTry ok, q⟩
    | cont =>
      obtain ⟨τ, G, J, q⟩ := got
      exact ⟨τ, G, J.ofTry ok, q⟩
  · obtain ⟨a, B, t0, pins', τ, G, cls, d, rfl, J0, nb, up, sky, na, os, ag, w⟩ := xx
    have J : Inv X pins τ G t0 := J0.ofTry ok
    have sky2 : Sky B (X.env :: X.outer) a (Zc cls d) X.env.locals t'.heap := hs ▸ sky
    show wpAny (model X.prog X.w) X.A (noteFrame (.ref a) X.env) _ _ _
    refine Sky.land Zc.steady hfra hf sky2 fun h3 fl3 up3 => ?_
    have J3 : Inv X pins τ G { t' with heap := h3 } := J.landed nb fl3.1 (up.trans up3) os ag
    obtain ⟨oa, va, ha, hz, hda⟩ := fl3.there
    have nfr : a ∉ frs (X.env :: X.outer) := fun hm => by
      obtain ⟨_, o', e', hnf⟩ := fl3.2.2.1.mem hm
      rw [ha] at e'
      cases e'
      exact hnf _ hda
    have nL : a ≠ X.env.locals := fun z => nfr (List.mem_filterMap.mpr ⟨X.env, List.mem_cons_self, hf.trans (congrArg some z.symm)⟩)
    have nF : a ∉ X.fs := fun hm => by
      obtain ⟨e, he, q⟩ := List.mem_filterMap.mp hm
      exact nfr (List.mem_filterMap.mpr ⟨e, .tail _ he, q⟩)
    have S3 := J3.suite ha hda na nL nF
    have LT : PySem.W.Looks (model X.prog X.w) h3 (typeOf (.ref a)) cls := fun A Q E t k q => wpAny_typeOf_ref (k _ _ ha) (hz.1.symm ▸ q)
    have test : ∀ {x : Str} {np : Pos} {c : Value} {Q : Value → Shared → Prop} {E : Value → Shared → Prop}, Names X x c → Q c { t' with heap := h3 } → wpAny (model X.prog X.w) (X.A.mark (some (.ref a))) (eval (.Name x np) X.env) Q E { t' with heap := h3 } := fun {x np c Q E} hc q => by
      obtain ⟨hg, hdbg, hm | ⟨hm, hv, hnn⟩⟩ := hc
      · exact ld_glob (X := X.suite a ((a, oa) :: (X.pn ++ pins))) S3 hg hm q hdbg
      · exact ld_blt (X := X.suite a ((a, oa) :: (X.pn ++ pins))) S3 hg hm hv q hnn hdbg
    have go : ∀ {hds : List ExceptHandler} {ls : List Cls}, HdsM X hds ls → wMulti X.K Wout D ls cls d τ G → wpAny (model X.prog X.w) X.A (handleBy (.ref a) X.env hds) (SP X pins D) X.xe { t' with heap := h3 } := by
      intro hds ls hk
      induction hk with
      | nil =>
        intro w
        refine wpAny_handleBy_nil ?_
        obtain ⟨_, _, _, oe, vs, Tb, oT, ts', he, _, hde, h1, _⟩ := id fl3
        unfold PySem.passOn
        refine wpAny_bind (wpAny_field he hde h1 ?_)
        rw [if_neg (show ¬ ((Value.ref Tb == Value.none) = true) from by simp)]
        have fin : wpAny (model X.prog X.w) X.A (setFlight (.ref a) X.env.frame) (fun _ t4 => wpAny (model X.prog X.w) X.A (throw (.ref a) : Sem Flow) (SP X pins D) X.xe t4) X.xe { t' with heap := h3 } := by
          rw [hf]
          exact HandSPX.setFlight_upZ fl3 fun h4 hh4 up4 => wpAny_throw (tk _ _ ⟨a, B, t0, pins, τ, G, cls, d, rfl, J, nb, (up.trans up3).trans up4, .inr (.inr (hs.symm ▸ hh4)), na, os, ag, w⟩)
        first
          | exact wpAny_bind (wpAny_pure (wpAny_bind fin))
          | exact wpAny_bind fin
      | bare hc hsu r ih =>
        intro w
        obtain ⟨b, hb1, yes, no⟩ := w
        refine wpAny_handleBy_cons (codeAny_handlers_test ?_) (by intro q; cases q)
        refine test hc ((PySem.W.exm_one (M := model X.prog X.w) J3.kIn LT hb1).here ?_)
        cases b with
        | true =>
          refine codeAny_handlers_suite (HandSPX.lands_againZ fl3 fun h4 fl4 up4 => ?_)
          have J4 : Inv X pins τ G { t' with heap := h4 } := J.landed nb fl4.1 ((up.trans up3).trans up4) os ag
          obtain ⟨o4, v4, a4, z4, d4⟩ := fl4.there
          refine wpAny_mono ((hsu a o4 cls d (X.pn ++ pins) z4 ⟨_, d4⟩).run [] _ _ G _ (J4.suite a4 d4 na nL nF) (yes rfl a na)) (fun f s6 got => ?_) (fun _ _ z => False.elim z)
          cases f with
          | ret u =>
            obtain ⟨v6, σ6, H6, S6, r6, q6⟩ := got
            exact ⟨_, _, _, S6.unsuite ok, r6, q6⟩
          | next =>
            obtain ⟨σ6, H6, S6, q6⟩ := got
            exact ⟨_, _, S6.unsuite ok, q6⟩
          | brk =>
            obtain ⟨σ6, H6, S6, q6⟩ := got
            exact ⟨_, _, S6.unsuite ok, q6⟩
          | cont =>
            obtain ⟨σ6, H6, S6, q6⟩ := got
            exact ⟨_, _, S6.unsuite ok, q6⟩
        | false => exact ih (no rfl)
      | @named x n i c ts f fs np hp hds2 l2 hi hln hc hsu r ih =>
        intro w
        obtain ⟨b, hb1, yes, no⟩ := w
        refine wpAny_handleBy_cons (codeAny_handlers_test ?_) (by intro q; cases q)
        refine test hc ((PySem.W.exm_one (M := model X.prog X.w) J3.kIn LT hb1).here ?_)
        cases b with
        | true =>
          refine codeAny_handlers_suite_as (HandSPX.lands_againZ fl3 fun h4 fl4 up4 => ?_)
          have J4 : Inv X pins τ G { t' with heap := h4 } := J.landed nb fl4.1 ((up.trans up3).trans up4) os ag
          obtain ⟨o4, v4, a4, z4, d4⟩ := fl4.there
          refine store_ok (X := X.suite a ((a, o4) :: (X.pn ++ pins))) (v := .ref a) (J4.suite a4 d4 na nL nF) hN hi (.inl hln) rfl (fun s5 S5 => ?_) (.inr hln)
          refine wpAny_mono ((hsu a o4 cls d (X.pn ++ pins) z4 ⟨_, d4⟩).run [] s5 _ G _ S5 (yes rfl a na)) (fun f s6 got => ?_) (fun _ _ z => False.elim z)
          have gone : ∀ {σ6 : L2.St} {H6 : Hp} {Q : Shared → Prop}, Inv (X.suite a ((a, o4) :: (X.pn ++ pins))) [] σ6 H6 s6 → (∀ s7, Inv X pins (σ6.set i none) H6 s7 → Q s7) →
              wpAny (model X.prog X.w) X.A (do bindName X.env n .none; unbindBehindTheSuite X.env n hp) (fun _ s7 => Q s7) X.xe s6 := fun {σ6 H6 Q} S6 hq => gone_ok (S6.unsuite ok) hN hi hln hq
          cases f with
          | ret u =>
            obtain ⟨v6, σ6, H6, S6, r6, q6⟩ := got
            exact gone S6 fun s7 J7 => ⟨_, _, _, J7, r6, q6⟩
          | next =>
            obtain ⟨σ6, H6, S6, q6⟩ := got
            exact gone S6 fun s7 J7 => ⟨_, _, J7, q6⟩
          | brk =>
            obtain ⟨σ6, H6, S6, q6⟩ := got
            exact gone S6 fun s7 J7 => ⟨_, _, J7, q6⟩
          | cont =>
            obtain ⟨σ6, H6, S6, q6⟩ := got
            exact gone S6 fun s7 J7 => ⟨_, _, J7, q6⟩
        | false => exact ih (no rfl)
    exact go hh w
end
end Mp

set_option Elab.async false
set_option linter.all false
set_option maxRecDepth 100000
set_option maxHeartbeats 4000000
namespace Mp
open PySem PySem.Spec L2
open PyProof.Rows hiding St
/-! ### try .. except C as e, classes by number -/
abbrev Sub := Nat → Nat → Option Bool
/-- what the written part says of the classes: which lies within which -/
structure SubOk (K : PySem.W.Frag) (lt : Nat → LamI) (sub : Sub) : Prop where
  ex : ∀ j i b, sub j i = some b → PySem.W.exmOne K (.ref (lt j).cls) (.ref (lt i).cls) = some b
  ki : ∀ j i b, sub j i = some b → PySem.W.kitOne K (.ref (lt j).cls) (.ref (lt i).cls) = some b
def noX : List Sl → Bool
  | [] => true
  | .exc _ _ :: _ => false
  | _ :: r => noX r
theorem noX_get : ∀ {l : List Sl} {i : Nat} {c : Value} {fs : List (Str × D)}, noX l = true → l[i]? ≠ some (Sl.exc c fs)
  | [], _, _, _, _ => by simp
  | .un :: r, 0, _, _, _ => by simp
  | .val _ :: r, 0, _, _, _ => by simp
  | .own _ :: r, 0, _, _, _ => by simp
  | .exc _ _ :: r, _, _, _, h => by cases h
  | .un :: r, i + 1, c, fs, h => by simpa using noX_get (l := r) (i := i) h
  | .val _ :: r, i + 1, c, fs, h => by simpa using noX_get (l := r) (i := i) h
  | .own _ :: r, i + 1, c, fs, h => by simpa using noX_get (l := r) (i := i) h
abbrev MC := Nat × Option Nat × M Fl
def suiteM (o : Option Nat) (m : M Fl) (c : Value) (fs : List (Str × D)) : M Fl := fun s => match o with
  | none => match m s with
    | .ok fl s' => .ok fl s'
    | _ => .stuck
  | some k => if k < s.env.length then match m { s with env := s.env.set k (.exc c fs) } with
      | .ok fl s' => if k < s'.env.length ∧ noX (s'.env.set k .un) = true then .ok fl { s' with env := s'.env.set k .un } else .stuck
      | _ => .stuck
    else .stuck
def handM (sub : Sub) : List MC → Value → List (Str × D) → M Fl
  | [], c, fs => fun s => .err c fs s
  | (i, o, m) :: r, c, fs => match c with
    | .ref j => match sub j i with
      | some true => suiteM o m c fs
      | some false => handM sub r c fs
      | none => stk
    | _ => stk
def tryS (sub : Sub) (b : M Fl) (hs : List MC) : M Fl := fun s => match b s with
  | .ok fl s' => .ok fl s'
  | .err c fs s' => handM sub hs c fs s'
  | .stuck => .stuck
section
variable {K : Kx} {p p2 : Pm K} {g g' : G} {σ : L2.St} {H H' : Hp} {s s' : S}
/-- the setting's wish, its exception changed -/
theorem RS.reW (r : RS p g σ H s) (U : WX) : RS { p with W := U } g σ H s := ⟨r.m, r.f, r.tabs, r.bg⟩
theorem RS.unW {U : WX} (r : RS { p with W := U } g σ H s) : RS p g σ H s := ⟨r.m, r.f, r.tabs, r.bg⟩
theorem RS.reX (r : RS p g σ H s) (hn : noX s.env = true) {W : WX} {xc : Option (Addr × Value × Option Addr)} : RS (K := K) ⟨p.T, p.B, W, xc⟩ g σ H s :=
  ⟨r.m, ⟨r.f.len, r.f.env, r.f.own, fun i c fs q => absurd q (noX_get hn), r.f.is, r.f.inj⟩, r.tabs, r.bg⟩
theorem noX_of (r : RF K none g σ H s.env) : noX s.env = true := by
  have key : ∀ l : List Sl, (∀ (i : Nat) (c : Value) (fs : List (Str × D)), l[i]? ≠ some (Sl.exc c fs)) → noX l = true := by
    intro l
    induction l with
    | nil => intro _; rfl
    | cons a l ih =>
      intro h
      have t := ih fun i c fs q => h (i + 1) c fs (by simpa using q)
      cases a with
      | exc c fs => exact absurd rfl (h 0 c fs)
      | un => exact t
      | val _ => exact t
      | own _ => exact t
  exact key _ fun i c fs q => by
    obtain ⟨a, dx, h, _⟩ := r.exc i c fs q
    cases h
theorem PstS.reW {r : R Fl} {D : Ends} {U : WX} (q : PstS p r g H D) (h : ∀ c fs s', r ≠ .err c fs s') : PstS { p with W := U } r g H D := by
  cases r with
  | stuck => exact q
  | err c fs s' => exact absurd rfl (h c fs s')
  | ok fl s' =>
    cases fl with
    | nx => exact fun σ' H' g' a b => q σ' H' g' a.unW b
    | ret d => exact fun v σ' H' g' a b c => q v σ' H' g' a.unW b c
    | bk => exact fun σ' H' g' a b => q σ' H' g' a.unW b
    | ct => exact fun σ' H' g' a b => q σ' H' g' a.unW b
end
section
variable {X : Cx} {lt : Nat → LamI} {p : Pm ⟨X.K, lt⟩} {body : List Stmt} {k0 : ExceptHandler} {ks : List ExceptHandler} {pos : Pos} {fb : M Fl} {sub : Sub}
def never : WX := fun _ _ _ _ => False
inductive HdsP (X : Cx) (lt : Nat → LamI) (p : Pm ⟨X.K, lt⟩) : List ExceptHandler → List MC → Prop
  | nil : HdsP X lt p [] []
  | bare {x : Str} {i : Nat} {m : M Fl} {f : Stmt} {fs : List Stmt} {np hp : Pos} {hds : List ExceptHandler} {l : List MC} (hc : Names X x (.ref (lt i).cls))
      (hsu : ∀ (q : Addr) (ob : Obj) (cls : Value) (d : Option Addr) (pn : List (Addr × Obj)), Zc cls d ob → (∃ us, ob.data = .fields us) → PSs (X.suite q ((q, ob) :: pn)) (f :: fs) (tS (K := ⟨X.K, lt⟩) ⟨p.T, p.B, never, none⟩ m)) (r : HdsP X lt p hds l) :
      HdsP X lt p (.ExceptHandler (some (.Name x np)) none (f :: fs) hp :: hds) ((i, none, m) :: l)
  | named {x n : Str} {k i : Nat} {m : M Fl} {f : Stmt} {fs : List Stmt} {np hp : Pos} {hds : List ExceptHandler} {l : List MC} (hi : X.N[k]? = some n) (hln : X.env.kindOf n = some .local) (hc : Names X x (.ref (lt i).cls))
      (hsu : ∀ (q : Addr) (ob : Obj) (cls : Value) (d : Option Addr) (pn : List (Addr × Obj)), Zc cls d ob → (∃ us, ob.data = .fields us) → PSs (X.suite q ((q, ob) :: pn)) (f :: fs) (tS (K := ⟨X.K, lt⟩) ⟨p.T, p.B, never, some (q, cls, d)⟩ m)) (r : HdsP X lt p hds l) :
      HdsP X lt p (.ExceptHandler (some (.Name x np)) (some n) (f :: fs) hp :: hds) ((i, some k, m) :: l)
/-- the clauses' readings -/
def clsOf (lt : Nat → LamI) (p : Pm ⟨X.K, lt⟩) : List MC → List Cls
  | [] => []
  | (i, none, m) :: r => (.ref (lt i).cls, none, fun _ _ _ => tS (K := ⟨X.K, lt⟩) ⟨p.T, p.B, never, none⟩ m) :: clsOf lt p r
  | (i, some k, m) :: r => (.ref (lt i).cls, some k, fun q cls d => tS (K := ⟨X.K, lt⟩) ⟨p.T, p.B, never, some (q, cls, d)⟩ m) :: clsOf lt p r
theorem HdsP.hds : ∀ {hds : List ExceptHandler} {l : List MC}, HdsP X lt p hds l → HdsM X hds (clsOf lt p l)
  | _, _, .nil => .nil
  | _, _, .bare hc hsu r => .bare hc hsu r.hds
  | _, _, .named hi hln hc hsu r => .named hi hln hc hsu r.hds
theorem s_try (hS : SubOk X.K lt sub) (hx : p.xc = none) (hs : X.stack = X.env :: X.outer) (hf : X.env.frame = some X.env.locals) (hN : X.N.Nodup) (tk : Takes X p.W) {l : List MC}
    (hb : ∀ (U : WX) (pn : List (Addr × Obj)) (xe : Value → Shared → Prop), Takes (X.tr pn xe) U → PassesOwn (model X.prog X.w) X.A X.env xe → PSs (X.tr pn xe) body (tS (K := ⟨X.K, lt⟩) { p with W := U } fb))
    (hh : HdsP X lt p (k0 :: ks) l) : PS X (.Try body (k0 :: ks) [] [] pos) (tS p (tryS sub fb l)) := by
  obtain ⟨T, B, W, xc⟩ := p
  have hx : xc = none := hx
  subst hx
  refine (ps_try_multi hs hf hN tk hb hh.hds).imp fun D σ H ⟨g, s, r, q⟩ => ⟨g, s, r.reW _, ?_⟩
  unfold tryS at q
  cases z : fb s with
  | stuck => rw [z] at q; exact q
  | ok fl s' =>
    rw [z] at q
    exact PstS.reW q fun _ _ _ e => by cases e
  | err c fs s' =>
    rw [z] at q
    intro σ' H' g' dx r1 e1 hx1
    have r1 : RS (K := ⟨X.K, lt⟩) ⟨T, B, W, none⟩ g' σ' H' s' := r1.unW
    have q : PstS (K := ⟨X.K, lt⟩) ⟨T, B, W, none⟩ (handM sub l c fs s') g' H' D := PstS.pre e1 q
    have go : ∀ {hds : List ExceptHandler} {l : List MC}, HdsP X lt ⟨T, B, W, none⟩ hds l → PstS (K := ⟨X.K, lt⟩) ⟨T, B, W, none⟩ (handM sub l c fs s') g' H' D → wMulti X.K W D (clsOf lt ⟨T, B, W, none⟩ l) (Kx.tr ⟨X.K, lt⟩ c) dx σ' H' := by
      intro hds l hk
      induction hk with
      | nil => exact fun q => q σ' H' g' dx r1 (.refl _ _) hx1
      | @bare x i m f fs' np hp hds l hc hsu rr ih =>
        intro q
        cases c with
        | ref j =>
          cases e : sub j i with
          | none => simp only [handM, e] at q; exact q.elim
          | some b =>
            refine ⟨b, hS.ex j i b e, fun eb a na => ?_, fun eb => ih ?_⟩
            · subst eb
              simp only [handM, e, suiteM] at q
              refine ⟨g', s', r1.reW _, ?_⟩
              cases zm : m s' with
              | stuck => rw [zm] at q; exact q
              | err _ _ _ => rw [zm] at q; exact q.elim
              | ok fl s2 =>
                rw [zm] at q
                exact PstS.reW q fun _ _ _ e => by cases e
            · subst eb
              simp only [handM, e] at q
              exact q
        | _ => exact q.elim
      | @named x n k i m f fs' np hp hds l hi hln hc hsu rr ih =>
        intro q
        cases c with
        | ref j =>
          cases e : sub j i with
          | none => simp only [handM, e] at q; exact q.elim
          | some b =>
            refine ⟨b, hS.ex j i b e, fun eb a na => ?_, fun eb => ih ?_⟩
            · subst eb
              simp only [handM, e, suiteM] at q
              by_cases hk : k < s'.env.length
              · rw [if_pos hk] at q
                have nx := noX_of r1.f
                have r2 : RS (K := ⟨X.K, lt⟩) ⟨T, B, never, some (a, Kx.tr ⟨X.K, lt⟩ (.ref j), dx)⟩ g' σ' H' s' := r1.reX nx
                have r3 : RS (K := ⟨X.K, lt⟩) ⟨T, B, never, some (a, Kx.tr ⟨X.K, lt⟩ (.ref j), dx)⟩ (g'.drop k) (σ'.set k (some (.ref a))) H' { s' with env := s'.env.set k (.exc (.ref j) fs) } :=
                  r2.go (s' := { s' with env := s'.env.set k (.exc (.ref j) fs) }) (g'.dropE H' k).s r2.m.drop (r2.f.put hk (.inr (.inr ⟨_, fs, a, dx, rfl, rfl, rfl, hx1⟩))) r2.tabs
                refine ⟨_, _, r3, ?_⟩
                cases zm : m { s' with env := s'.env.set k (.exc (.ref j) fs) } with
                | stuck => rw [zm] at q; exact q
                | err _ _ _ => rw [zm] at q; exact q.elim
                | ok fl s2 =>
                  rw [zm] at q
                  have q : PstS (K := ⟨X.K, lt⟩) ⟨T, B, W, none⟩ (if k < s2.env.length ∧ noX (s2.env.set k .un) = true then .ok fl { s2 with env := s2.env.set k .un } else .stuck) g' H' D := q
                  by_cases hk2 : k < s2.env.length ∧ noX (s2.env.set k .un) = true
                  · rw [if_pos hk2] at q
                    have fin : ∀ {σ2 : L2.St} {H2 : Hp} {g2 : G}, RS (K := ⟨X.K, lt⟩) ⟨T, B, never, some (a, Kx.tr ⟨X.K, lt⟩ (.ref j), dx)⟩ g2 σ2 H2 s2 → RS (K := ⟨X.K, lt⟩) ⟨T, B, W, none⟩ (g2.drop k) (σ2.set k none) H2 { s2 with env := s2.env.set k .un } := fun r4 =>
                      (r4.unset (o := none) hk2.1).reX (p := ⟨T, B, never, _⟩) hk2.2
                    have ee : ∀ {H2 : Hp} {g2 : G}, ExtS (g'.drop k) H' g2 H2 → ExtS g' H' (g2.drop k) H2 := fun e4 => (g'.dropE H' k).s.trans (e4.trans (G.dropE _ _ k).s)
                    cases fl with
                    | nx => exact fun σ2 H2 g2 r4 e4 => q _ _ _ (fin r4) (ee e4)
                    | ret d => exact fun v σ2 H2 g2 r4 e4 rv => q v _ _ _ (fin r4) (ee e4) rv
                    | bk => exact fun σ2 H2 g2 r4 e4 => q _ _ _ (fin r4) (ee e4)
                    | ct => exact fun σ2 H2 g2 r4 e4 => q _ _ _ (fin r4) (ee e4)
                  · rw [if_neg hk2] at q
                    exact q.elim
              · rw [if_neg hk] at q
                exact q.elim
            · subst eb
              simp only [handM, e] at q
              exact q
        | _ => exact q.elim
    exact go hh q
end
end Mp

set_option Elab.async false
set_option linter.all false
set_option maxRecDepth 100000
set_option maxHeartbeats 4000000
namespace Mp
open PySem PySem.Spec L2
open PyProof.Rows hiding St
/-! ### what a suite reads of the exception that it holds -/
/-- what the written part says of a class of exceptions: f is a field of its instances -/
structure ExK (K : PySem.W.Frag) (f : Str) (C : Addr) : Prop where
  xf : XfC K C
  no : PySem.W.findIn K (.ref C) f = some none
  cl : (PySem.W.clsIn K C).isSome = true
  ca : PySem.W.findIn K (.ref C) "__class__" = some (some (.builtin "object.__class__"))
  sp : PySem.W.specialIn K (.builtin "object.__class__") "__get__" = some (some (.builtin "getset_descriptor.__get__"))
  tk : PySem.W.takesIn K (.builtin "object.__class__") = some true
  mr : PySem.W.mroIn K C (.type "object") = some true
/-- e.f -/
def excF (n i : Nat) (f : Str) : M D := fun s => match s.env[i]? with
  | some (.exc (.ref j) fs) => if j < n then match fs.lookup f with
      | some d => .ok d s
      | none => .stuck
    else .stuck
  | _ => .stuck
/-- isinstance(e, C) -/
def isE (sub : Sub) (n i j : Nat) : M D := fun s => match s.env[i]? with
  | some (.exc (.ref k) _) => if k < n then match sub k j with
      | some b => .ok (.bl b) s
      | none => .stuck
    else .stuck
  | _ => .stuck
theorem lookup_zip {K : Kx} {F : Hp} {φ : List Addr} {f : Str} : ∀ {fs : List (Str × D)} {vs : List V} {d : D}, RVs K F φ (fs.map (·.2)) vs → fs.lookup f = some d → ∃ v, ((fs.map (·.1)).zip vs).lookup f = some v ∧ RV K F φ d v
  | [], _, _, _, h => by cases h
  | (x, y) :: fs, [], _, q, _ => by cases q
  | (x, y) :: fs, v :: vs, d, q, h => by
    cases q with
    | cons r q =>
      rw [List.lookup_cons] at h
      show ∃ u, ((x, v) :: (fs.map (·.1)).zip vs).lookup f = some u ∧ _
      rw [List.lookup_cons]
      cases e : f == x with
      | true =>
        rw [e] at h
        cases h
        exact ⟨v, rfl, r⟩
      | false =>
        rw [e] at h
        exact lookup_zip q h
section
variable {X : Cx} {lt : Nat → LamI} {a : Addr} {oe : Obj} {cls : Value} {d : Option Addr} {pn : List (Addr × Obj)} {p : Pm ⟨X.K, lt⟩} {n i : Nat} {f x : Str} {px pos pf pc : Pos}
theorem pe_none {Y : Cx} {e : Expr} : PE Y e (fun _ _ _ => False) := ⟨fun _ _ _ _ _ _ h => h.elim⟩
theorem exc_at {g : G} {σ : L2.St} {H : Hp} {s : S} (r : RS p g σ H s) (hxc : p.xc = some (a, cls, d)) {c : Value} {fs : List (Str × D)} (h : s.env[i]? = some (Sl.exc c fs)) : cls = Kx.tr ⟨X.K, lt⟩ c ∧ σ[i]? = some (some (.ref a)) ∧ REx ⟨X.K, lt⟩ g H fs d := by
  obtain ⟨b, dx, h1, h2, h3⟩ := r.f.exc i c fs h
  rw [hxc] at h1
  obtain ⟨rfl, rfl, rfl⟩ : a = b ∧ cls = Kx.tr ⟨X.K, lt⟩ c ∧ d = dx := by
    have e := Option.some.inj h1
    exact ⟨congrArg (·.1) e, congrArg (·.2.1) e, congrArg (·.2.2) e⟩
  exact ⟨rfl, h2, h3⟩
theorem x_excf (hxc : p.xc = some (a, cls, d)) (hz : Zc cls d oe) (hf : ∃ vs, oe.data = .fields vs) (hC : ∀ j, j < n → ExK X.K f (lt j).cls) (hN : X.N[i]? = some x := by kernel_rfl) (hv : X.env.scope.names.lookup x = some .local := by kernel_rfl)
    (hdb : (x == ("__debug__" : Str)) = false := by kernel_rfl) (hcd : (x == ("__classdict__" : Str)) = false := by kernel_rfl) (hb : attributeBase (.Name x px) f X.env (eval (.Name x px) X.env) = eval (.Name x px) X.env := by rfl) :
    PE (X.suite a ((a, oe) :: pn)) (.Attribute (.Name x px) f pos) (tD (K := ⟨X.K, lt⟩) p (excF n i f)) := by
  by_cases hc : ∃ j, j < n ∧ cls = .ref (lt j).cls
  · obtain ⟨j, hj, rfl⟩ := hc
    refine (pe_xf (hC j hj).xf (hC j hj).no hz hf (pe_var (X := X.suite a ((a, oe) :: pn)) (i := i) hN (.inl hv) hdb hcd) hb).imp fun σ H Q ⟨g, s, r, q⟩ => ?_
    unfold excF at q
    split at q
    · rename_i k fs he
      obtain ⟨h1, h2, h3⟩ := exc_at r hxc he
      split at q
      · split at q
        · rename_i y hy
          cases d with
          | none => 
            obtain rfl : fs = [] := h3
            cases hy
          | some dd =>
            obtain ⟨vs, z1, z2, z3, z4⟩ := h3
            obtain ⟨v, w1, w2⟩ := lookup_zip z2 hy
            exact ⟨.ref a, h2, rfl, rfl, dd, _, v, rfl, z1, w1, q v H g r (.refl _ _) w2⟩
        · exact q.elim
      · exact q.elim
    · exact q.elim
  · refine pe_none.imp fun σ H Q ⟨g, s, r, q⟩ => ?_
    unfold excF at q
    split at q
    · rename_i k fs he
      obtain ⟨h1, h2, h3⟩ := exc_at r hxc he
      split at q
      · rename_i hk
        exact hc ⟨k, hk, h1⟩
      · exact q.elim
    · exact q.elim
/-- isinstance(e, c), e the exception that the suite holds -/
def rIsE2 (K : PySem.W.Frag) (D a : Addr) (d : Option Addr) : List V → Hp → VK → Prop := fun xs H Q => ∃ (c : Addr) (b : Bool), xs = [.ref a, .ref c] ∧ PySem.W.kitOne K (.ref D) (.ref c) = some b ∧ (∀ dd, d = some dd → ∃ fs, H dd = some (.xd fs)) ∧ Q (.bl b) H
theorem call_isE2 {D : Addr} (C : ExK X.K f D) (hz : Zc (.ref D) d oe) (hf : ∃ vs, oe.data = .fields vs) : CallR (X.suite a ((a, oe) :: pn)) (.builtin "isinstance") (rIsE2 X.K D a d) := by
  intro pins s σ H xs us Q I r h
  obtain ⟨c, b, rfl, e, hd, q⟩ := h
  cases r with
  | cons rx rr =>
    cases rr with
    | cons rt rr =>
      cases rr
      cases rx
      obtain rfl := rt
      obtain ⟨hget, _⟩ := I.pin (a, oe) (List.mem_append.mpr (.inl List.mem_cons_self))
      obtain ⟨vs, hv⟩ := hf
      have J : ∃ od, PySem.W.InstAt s.heap a oe D od := by
        obtain ⟨oc, od, oda, osl⟩ := oe
        obtain ⟨h1, h2⟩ := hz
        dsimp only at h1 h2 hv
        subst h1 h2 hv
        cases od with
        | none => exact ⟨none, hget, rfl, rfl, trivial⟩
        | some dd =>
          obtain ⟨fs, hx⟩ := hd dd rfl
          have ob : ObjOk X.prog X.w H s.heap dd (.xd fs) := I.hok dd _ hx
          obtain ⟨mA, hns, _⟩ := ob
          obtain ⟨o2, ho, _⟩ := lookIn_ns hns
          exact ⟨some o2, hget, rfl, rfl, ho⟩
      obtain ⟨od, J⟩ := J
      exact PySem.W.kia_one (PySem.W.kitx_exc C.cl C.xf.ga C.xf.gg C.xf.exC C.ca C.sp C.tk C.mr) I.kIn J e (fun z => nomatch z) fun tk => ⟨.bl b, H, I.kept (t' := tk) fun _ _ z => z, rfl, q⟩
theorem x_isE {sub : Sub} {j : Nat} {y : Str} (hS : SubOk X.K lt sub) (hxc : p.xc = some (a, cls, d)) (hz : Zc cls d oe) (hf : ∃ vs, oe.data = .fields vs) (hC : ∀ j, j < n → ExK X.K f (lt j).cls) (hi : X.mg "isinstance" = none) (hm : X.mg y = some (.ref (lt j).cls))
    (hN : X.N[i]? = some x := by kernel_rfl) (hv : X.env.scope.names.lookup x = some .local := by kernel_rfl)
    (hgi : X.env.kindOf "isinstance" = some .globalImplicit := by kernel_rfl) (hgy : X.env.kindOf y = some .globalImplicit := by kernel_rfl) (hdy : (y == ("__debug__" : Str)) = false := by kernel_rfl)
    (hdb : (x == ("__debug__" : Str)) = false := by kernel_rfl) (hcd : (x == ("__classdict__" : Str)) = false := by kernel_rfl)
    (he : starEach (.Name x px :: [.Name y pc]) X.env = (false, eval (.Name x px) X.env) :: starEach [.Name y pc] X.env := by rfl) (he2 : starEach [.Name y pc] X.env = (false, eval (.Name y pc) X.env) :: starEach [] X.env := by rfl) (hpl : (backTo pos (starEach [.Name y pc] X.env)).any (·.1) = false := by rfl) :
    PE (X.suite a ((a, oe) :: pn)) (.Call (.Name "isinstance" pf) [.Name x px, .Name y pc] [] pos) (tD (K := ⟨X.K, lt⟩) p (isE sub n i j)) := by
  by_cases hc : ∃ k, k < n ∧ cls = .ref (lt k).cls
  · obtain ⟨k0, hk0, rfl⟩ := hc
    refine (pe_callB (X := X.suite a ((a, oe) :: pn)) (x := "isinstance") (call_isE2 (hC k0 hk0) hz hf) hgi hi (by decide +kernel) (pa_cons (pe_var (X := X.suite a ((a, oe) :: pn)) (i := i) hN (.inl hv) hdb hcd) (pa_cons (pe_glob (X := X.suite a ((a, oe) :: pn)) (v := .ref (lt j).cls) hgy hm rfl hdy) pa_nil he2) he) (by decide) (by decide) he hpl).imp fun σ H Q ⟨g, s, r, q⟩ => ?_
    unfold isE at q
    split at q
    · rename_i k fs hev
      obtain ⟨h1, h2, h3⟩ := exc_at r hxc hev
      split at q
      · split at q
        · rename_i b hb
          have hk := hS.ki k j b hb
          rw [show (Value.ref (lt k).cls) = .ref (lt k0).cls from h1.symm] at hk
          refine ⟨.ref a, h2, (lt j).cls, b, rfl, hk, fun dd ed => ?_, q (.bl b) H g r (.refl _ _) (.bl b)⟩
          subst ed
          obtain ⟨vs, z1, _⟩ := h3
          exact ⟨_, z1⟩
        · exact q.elim
      · exact q.elim
    · exact q.elim
  · refine pe_none.imp fun σ H Q ⟨g, s, r, q⟩ => ?_
    unfold isE at q
    split at q
    · rename_i k fs he
      obtain ⟨h1, h2, h3⟩ := exc_at r hxc he
      split at q
      · rename_i hk
        exact hc ⟨k, hk, h1⟩
      · exact q.elim
    · exact q.elim
end
end Mp

set_option Elab.async false
set_option linter.all false
set_option maxRecDepth 100000
set_option maxHeartbeats 4000000
namespace Mp
open PySem PySem.Spec L2
open PyProof.Rows hiding St
/-! ### a lambda is made -/
theorem co_inj {c : Addr} {q : Str} {o : HO} {H : Hp} (h : H c = some (LamX.CodeO c q)) (h2 : H c = some o) : o = LamX.CodeO c q := Option.some.inj (h2.symm.trans h)
theorem at_ntbl {l : LamI} {L f c : Addr} (ps : Array Value) : l.at L f c ≠ .tbl ps := fun z => by
  unfold LamI.at at z
  cases z
section
variable {K : Kx} {p : Pm K} {g : G} {σ : L2.St} {H : Hp} {s : S}
def G.code (g : G) (c : Addr) (q : Str) : G := { g with F := upd g.F c (LamX.CodeO c q) }
theorem RM.co_up (m : RM K g H s.ms) {c : Addr} {q : Str} (hc : H c = some (LamX.CodeO c q)) : ∀ b u, g.F b = some u → (g.code c q).F b = some u := fun b u z => by
  by_cases e : b = c
  · subst e
    rw [show (g.code b q).F b = some (LamX.CodeO b q) from upd_same, co_inj hc (m.sub b u z)]
  · rw [show (g.code c q).F b = g.F b from upd_ne e]
    exact z
theorem co_off {c a : Addr} {q : Str} {vs : List V} (hc : H c = some (LamX.CodeO c q)) (ha : H a = some (.lst vs)) : a ≠ c := fun e => by
  rw [e, hc] at ha
  exact lst_ne_co ha.symm
/-- a code object is told frozen -/
theorem RS.code (r : RS p g σ H s) {c : Addr} {q : Str} (hc : H c = some (LamX.CodeO c q)) : RS p (g.code c q) σ H s ∧ Ext g H (g.code c q) H := by
  have up := r.m.co_up hc
  have nφ : c ∉ g.φ := fun z => by
    obtain ⟨n, hn⟩ := List.mem_iff_getElem?.mp z
    have hlt : n < s.ms.length := by rw [r.m.mlen]; exact (List.getElem?_eq_some_iff.mp hn).1
    obtain ⟨vs, h, _⟩ := r.m.mem n c _ hn (List.getElem?_eq_getElem hlt)
    exact co_off hc h rfl
  have nω : ∀ i, g.ω i ≠ some c := fun i z => by
    obtain ⟨ds, h⟩ := r.f.is i c z
    obtain ⟨b, vs, h1, _, h3, _⟩ := r.f.own i ds h
    rw [z] at h1
    cases h1
    exact co_off hc h3 rfl
  have offF : ∀ {a : Addr} {vs : List V}, H a = some (.lst vs) → g.F a = none → (g.code c q).F a = none := fun ha hf => (upd_ne (co_off hc ha)).trans hf
  have ex : Ext g H (g.code c q) H := ⟨up, ⟨[], by simp [G.code]⟩, fun _ h => .inl h, fun a o z => by
      by_cases e : a = c
      · subst e
        rw [show (g.code a q).F a = some (LamX.CodeO a q) from upd_same] at z
        exact .inr (.inr (.inr ⟨q, (Option.some.inj z).symm, hc, nφ, nω⟩))
      · rw [show (g.code c q).F a = g.F a from upd_ne e] at z
        exact .inl z, fun i a h => .inl ⟨i, h⟩, fun _ o h => ⟨o, h⟩, fun _ _ h _ _ => h⟩
  refine ⟨r.go ex.s ⟨fun a o z => ?_, r.m.mlen, fun n a ds h1 h2 => ?_, r.m.nod, fun a ps z => ?_⟩ ⟨r.f.len, fun i d h => ?_, fun i ds h => ?_, fun i cc fs h => ?_, r.f.is, r.f.inj⟩ r.tabs, ex⟩
  · by_cases e : a = c
    · subst e
      rw [show (g.code a q).F a = some (LamX.CodeO a q) from upd_same] at z
      cases z
      exact hc
    · rw [show (g.code c q).F a = g.F a from upd_ne e] at z
      exact r.m.sub a o z
  · obtain ⟨vs, h3, h4, h5⟩ := r.m.mem n a ds h1 h2
    exact ⟨vs, h3, RVs.up up ⟨[], by simp [G.code]⟩ _ _ h4, offF h3 h5⟩
  · by_cases e : a = c
    · subst e
      rw [show (g.code a q).F a = some (LamX.CodeO a q) from upd_same] at z
      exact LamX.codeO_ne ps (Option.some.inj z)
    · rw [show (g.code c q).F a = g.F a from upd_ne e] at z
      exact r.m.nt a ps z
  · obtain ⟨v, h1, h2⟩ := r.f.env i d h
    exact ⟨v, h1, ex.rv h2⟩
  · obtain ⟨a, vs, h1, h2, h3, h4, h5, h6⟩ := r.f.own i ds h
    exact ⟨a, vs, h1, h2, h3, ex.rvs h4, offF h3 h5, h6⟩
  · obtain ⟨a, dx, h1, h2, h3⟩ := r.f.exc i cc fs h
    refine ⟨a, dx, h1, h2, ?_⟩
    cases dx with
    | none => exact h3
    | some d =>
      obtain ⟨vs, z1, z2, z3, z4⟩ := h3
      exact ⟨vs, z1, ex.rvs z2, z3, z4⟩
/-- a table of code objects grows -/
theorem RS.tbl (r : RS p g σ H s) {P : Addr} {ps qs : Array Value} (hP : H P = some (.tbl ps)) (T1 : LamX.Tabs p.T (upd H P (.tbl qs))) : RS p g σ (upd H P (.tbl qs)) s ∧ Ext g H g (upd H P (.tbl qs)) := by
  have nP : ∀ {a : Addr} {o : HO}, H a = some o → (∀ ps, o ≠ .tbl ps) → a ≠ P := fun {a o} h n e => by
    rw [e, hP] at h
    exact n ps (Option.some.inj h).symm
  have ex : Ext g H g (upd H P (.tbl qs)) := ⟨fun _ _ h => h, ⟨[], by simp⟩, fun _ h => .inl h, fun _ _ h => .inl h, fun i a h => .inl ⟨i, h⟩, fun b o h => by
      by_cases e : b = P
      · subst e
        exact ⟨_, upd_same⟩
      · exact ⟨o, by rw [upd_ne e]; exact h⟩, fun b o h _ n => by rw [upd_ne (nP h n)]; exact h⟩
  refine ⟨r.go ex.s ⟨fun a o z => ?_, r.m.mlen, fun n a ds h1 h2 => ?_, r.m.nod, r.m.nt⟩ ⟨r.f.len, r.f.env, fun i ds h => ?_, fun i cc fs h => ?_, r.f.is, r.f.inj⟩ T1, ex⟩
  · rw [upd_ne (nP (r.m.sub a o z) fun ps e => r.m.nt a ps (e ▸ z))]
    exact r.m.sub a o z
  · obtain ⟨vs, h3, h4, h5⟩ := r.m.mem n a ds h1 h2
    exact ⟨vs, by rw [upd_ne (nP h3 fun _ z => nomatch z)]; exact h3, h4, h5⟩
  · obtain ⟨a, vs, h1, h2, h3, h4, h5, h6⟩ := r.f.own i ds h
    exact ⟨a, vs, h1, h2, by rw [upd_ne (nP h3 fun _ z => nomatch z)]; exact h3, h4, h5, h6⟩
  · obtain ⟨a, dx, h1, h2, h3⟩ := r.f.exc i cc fs h
    refine ⟨a, dx, h1, h2, ?_⟩
    cases dx with
    | none => exact h3
    | some d =>
      obtain ⟨vs, z1, z2, z3, z4⟩ := h3
      exact ⟨vs, by rw [upd_ne (nP z1 fun _ z => nomatch z)]; exact z1, z2, z3, z4⟩
end
section
variable {X : Cx} {pins : List (Addr × Obj)} {σ : L2.St} {H : Hp} {s s0 : Shared}
/-- a newer object is told -/
theorem Inv.know {H0 : Hp} (I0 : Inv X pins σ H0 s0) (I : Inv X pins σ H s) {a : Addr} {o : HO} (ha : H a = none) (hx : s0.heap.objs.size ≤ a) (ho : ObjOk X.prog X.w (upd H a o) s.heap a o) : Inv X pins σ (upd H a o) s := by
  have lt : ∀ {b : Addr} {u : Obj}, X.s_0.heap.get? b = some u → b ≠ a := fun {b u} e => Nat.ne_of_lt (Nat.lt_of_lt_of_le (Heap.lt_size e) (Nat.le_trans I0.sz hx))
  have nL : X.env.locals ≠ a := Nat.ne_of_lt (Nat.lt_of_lt_of_le I0.lt hx)
  have nC : ∀ {x : Str} {c : Addr}, X.env.cells.lookup x = some c → c ≠ a := fun {x c} e => by
    obtain ⟨v, u, hu, _⟩ := I0.cell x c e
    exact Nat.ne_of_lt (Nat.lt_of_lt_of_le (Heap.lt_size hu) hx)
  have nA : ∀ {b : Addr} {u : HO}, H b = some u → b ≠ a := fun {b u} e z => by
    rw [z, ha] at e
    cases e
  have B := I.base
  refine ⟨I.ok, I.os, I.bare, ⟨B.keep, B.slot, fun b u e n z => ?_, B.there, fun b xs e => ?_, fun b u w e => ?_, fun b ps e => ?_⟩, I.loc, I.cell, ?_, fun x c e => ?_, fun q hq => ?_, fun b u e => ?_, I.len⟩
  · rw [upd_ne (lt e)]
    exact B.free b u e n z
  · have h := B.tups b xs e
    rw [upd_ne (nA h)]
    exact h
  · have h := B.frzs b u w e
    rw [upd_ne (nA h)]
    exact h
  · obtain ⟨more, h⟩ := B.tbls b ps e
    exact ⟨more, by rw [upd_ne (nA h)]; exact h⟩
  · rw [upd_ne nL]
    exact I.free
  · rw [upd_ne (nC e)]
    exact I.freeC x c e
  · obtain ⟨z1, z2, z3, z4, z5⟩ := I.pin q hq
    obtain ⟨y1, _⟩ := I0.pin q hq
    exact ⟨z1, by rw [upd_ne (Nat.ne_of_lt (Nat.lt_of_lt_of_le (Heap.lt_size y1) hx))]; exact z2, z3, z4, z5⟩
  · by_cases e2 : b = a
    · subst e2
      rw [upd_same] at e
      cases e
      exact ho
    · rw [upd_ne e2] at e
      exact (I.hok b u e).stay (fun _ _ _ z => z) (fun d z => by rw [upd_ne (nA z)]; exact z) (fun d xs z => by rw [upd_ne (nA z)]; exact z)
theorem at_ok {P : Program} {w : World} {h : Heap} {l : LamI} {L f c : Addr} {pm ctv : Value} (e : h.get? f = some (PySem.W.kla_obj "<lambda>" (l.qual ++ "<lambda>") l.params l.body l.scope (cloFrom (cellsFrom (L + 1) l.sc.names []) l.scope.names []) pm c ctv)) : ObjOk P w H h f (l.at L f c) :=
  ⟨⟨pm, ctv, e⟩, ⟨_, e⟩, fun h1 h2 z k => by
    obtain ⟨pm, ctv, q⟩ := z
    exact ⟨pm, ctv, k _ q⟩⟩
end
section
variable {X : Cx} {lt : Nat → LamI} {p : Pm ⟨X.K, lt⟩} {params : Arguments} {body : Expr} {scope : Scope} {pos : Pos} {c P : Addr} {n : Nat}
def cloM (L : Addr) (n : Nat) : M D := ret (.clo L n)
/-- what a def's setting must say, so that lambdas can be made there -/
structure LamK (X : Cx) (T : List (Addr × Str)) (c P : Addr) : Prop where
  tb : LamX.TabB X.base X.mg c P
  cd : X.env.code = .ref c
  mem : (P, X.env.qual ++ "<lambda>") ∈ T
  one : ∀ q ∈ T, q.1 = P → q.2 = X.env.qual ++ "<lambda>"
  cel : X.env.cells = cellsFrom (X.env.locals + 1) X.env.scope.names []
theorem d_lam (k : LamK X p.T c P) (hl : lt n = ⟨X.env.qual, X.env.scope, params, body, scope, (lt n).cls⟩) (L : LamX.LamS X.env.scope scope) (hdef : defaultsOf params X.env = ([], []) := by rfl) :
    PE X (.Lambda params body scope pos) (tD p (cloM X.env.locals n)) := by
  refine ⟨fun pins s σ H Q I h => ?_⟩
  obtain ⟨g, m, r, q⟩ := h
  obtain ⟨ps, hP, ht, ha⟩ := r.tabs _ k.mem
  have bP : s.heap.BuiltinsAt X.mg P := k.tb.bm.keeps I.bk
  have oP : s.heap.get? P = some { cls := .none, data := .fields ps } := I.hok P _ hP
  have ql : (lt n).qual = X.env.qual := by rw [hl]
  have hF := L.has I.ok
  -- the end: f is told
  have fin : ∀ {f c' : Addr} {pm ctv : Value} {H1 : Hp} {s' : Shared} {g1 : G}, s.heap.objs.size ≤ f → Inv X pins σ H1 s' → RS p g1 σ H1 m → Ext g H g1 H1 → g1.F c' = some (LamX.CodeO c' (X.env.qual ++ "<lambda>")) →
      (∀ I0 : Inv X pins σ H s, Inv X pins σ H1 s' → H1 f = none → Inv X pins σ (upd H1 f ((lt n).at X.env.locals f c')) s') →
      H1 f = none → EP X pins σ Q (.ref f) s' := fun {f c' pm ctv H1 s' g1} hf I1 r1 e1 hc kn nf => by
    refine ⟨.ref f, _, kn I I1 nf, rfl, ?_⟩
    have r2 := r1.add nf ((lt n).at X.env.locals f c') (fun ps => at_ntbl ps)
    have e2 := r1.m.addE nf ((lt n).at X.env.locals f c')
    refine q (.ref f) _ _ r2 (e1.trans e2) (.clo G.add_same ?_)
    show (upd g1.F f ((lt n).at X.env.locals f c')) c' = _
    rw [ql, upd_ne]
    · exact hc
    · intro z
      have y := r1.m.sub _ _ hc
      rw [z, nf] at y
      cases y
  have obj : ∀ {f c' : Addr} {pm ctv : Value} {h : Heap} {H' : Hp}, h.get? f = some (PySem.W.kla_obj "<lambda>" (X.env.qual ++ "<lambda>") params body scope (cloFrom X.env.cells scope.names []) pm c' ctv) → ObjOk X.prog X.w H' h f ((lt n).at X.env.locals f c') := fun {f c' pm ctv h H'} e => by
    refine at_ok (pm := pm) (ctv := ctv) ?_
    rw [hl]
    rw [k.cel] at e
    exact e
  refine PySem.W.kla_eval hdef ?_
  cases hc : codeAmong pos ps.toList with
  | some cv =>
    obtain ⟨c', e, hco⟩ := ha pos cv hc
    subst e
    refine PySem.W.kla_makeFunctionHit (mg := X.mg) (c := c) (P := P) (ps := ps) (closure_ok hF) I.ok.glob (I.mod.glob.keeps I.bk) k.cd (k.tb.code.keeps I.bk) oP ht hc bP fun ctv h' tk hx hsz => ?_
    have I1 : Inv X pins σ H { s with heap := h'.push (PySem.W.kla_obj "<lambda>" (X.env.qual ++ "<lambda>") params body scope (cloFrom X.env.cells scope.names []) ((X.mg "__name__").getD .none) c' ctv), toks := tk } := I.kept fun b o e => Heap.get?_push_of_some _ (hx b o e)
    obtain ⟨r1, e1⟩ := r.code hco
    exact fin (pm := .none) (ctv := .none) hsz I1 r1 e1 upd_same (fun I0 I1 nf => Inv.know I0 I1 nf hsz (obj (Heap.get?_push_size _ rfl))) (I.hok.fresh hsz)
  | none =>
    refine PySem.W.kla_makeFunction (mg := X.mg) (c := c) (P := P) (ps := ps) (closure_ok hF) I.ok.glob (I.mod.glob.keeps I.bk) k.cd (k.tb.code.keeps I.bk) oP ht hc k.tb.gP bP fun c' ctv h' tk hx hge hlt hrec htb => ?_
    obtain ⟨c2, oc, vs, t, e2, hoc, hd, hv⟩ := hrec
    cases e2
    have hsz : s.heap.objs.size ≤ h'.objs.size := Nat.le_trans hge (Nat.le_of_lt hlt)
    have nC : H c' = none := I.hok.fresh hge
    have nPc : P ≠ c' := ne_of_none hP nC
    have I1 := LamX.inv_table (t' := tk) (more := #[rawInt pos.line, rawInt pos.col, .ref c']) (h' := h'.push (PySem.W.kla_obj "<lambda>" (X.env.qual ++ "<lambda>") params body scope (cloFrom X.env.cells scope.names []) ((X.mg "__name__").getD .none) c' ctv)) I hP
      (fun b o hb e => Heap.get?_push_of_some _ (hx b o hb e)) (Heap.get?_push_of_some _ htb) hge ⟨oc, vs, t, Heap.get?_push_of_some _ hoc, hd, hv⟩
    have eH : upd (upd H P (.tbl (ps ++ #[rawInt pos.line, rawInt pos.col, .ref c']))) c' (LamX.CodeO c' (X.env.qual ++ "<lambda>")) = upd (upd H c' (LamX.CodeO c' (X.env.qual ++ "<lambda>"))) P (.tbl (ps ++ #[rawInt pos.line, rawInt pos.col, .ref c'])) := by
      funext b
      by_cases h1 : b = c'
      · rw [h1, upd_same, upd_ne (Ne.symm nPc), upd_same]
      · by_cases h2 : b = P
        · rw [h2, upd_ne nPc, upd_same, upd_same]
        · rw [upd_ne h1, upd_ne h2, upd_ne h2, upd_ne h1]
    rw [eH] at I1
    have r1 := r.add nC (LamX.CodeO c' (X.env.qual ++ "<lambda>")) LamX.codeO_ne
    have e1 := r.m.addE nC (LamX.CodeO c' (X.env.qual ++ "<lambda>"))
    have eL : (ps ++ #[rawInt pos.line, rawInt pos.col, .ref c']).toList = ps.toList ++ [rawInt pos.line, rawInt pos.col, .ref c'] := by simp
    have tabs : LamX.Tabs p.T (upd (upd H c' (LamX.CodeO c' (X.env.qual ++ "<lambda>"))) P (.tbl (ps ++ #[rawInt pos.line, rawInt pos.col, .ref c']))) := fun z hz => by
      have cod : ∀ {b : Addr} {w : Str}, H b = some (LamX.CodeO b w) → upd (upd H c' (LamX.CodeO c' (X.env.qual ++ "<lambda>"))) P (.tbl (ps ++ #[rawInt pos.line, rawInt pos.col, .ref c'])) b = some (LamX.CodeO b w) := fun {b w} h => by
        rw [upd_ne (fun y => by rw [y, hP] at h; exact LamX.codeO_ne ps (Option.some.inj h).symm), upd_ne (ne_of_none h nC)]
        exact h
      by_cases hb : z.1 = P
      · rw [k.one z hz hb, hb]
        refine ⟨_, upd_same, by rw [eL]; exact PySem.TriplesOk_snoc _ _ _ _ ht, fun p' cv hcv => ?_⟩
        rw [eL] at hcv
        rcases LamX.among_app _ ht hcv with y | y
        · obtain ⟨c0, y1, y2⟩ := ha p' cv y
          exact ⟨c0, y1, cod y2⟩
        · exact ⟨c', y, by rw [upd_ne (Ne.symm nPc), upd_same]⟩
      · obtain ⟨qs, a1, a2, a3⟩ := r.tabs z hz
        refine ⟨qs, by rw [upd_ne hb, upd_ne (ne_of_none a1 nC)]; exact a1, a2, fun p' cv hcv => ?_⟩
        obtain ⟨c0, y1, y2⟩ := a3 p' cv hcv
        exact ⟨c0, y1, cod y2⟩
    obtain ⟨r2, e2⟩ := r1.tbl (P := P) (ps := ps) (by rw [upd_ne nPc]; exact hP) tabs
    have n1 : h'.objs.size ≠ c' := Nat.ne_of_gt hlt
    have n2 : h'.objs.size ≠ P := Nat.ne_of_gt (Nat.lt_of_lt_of_le (Heap.lt_size oP) hsz)
    exact fin (pm := .none) (ctv := .none) hsz I1 r2 (e1.trans e2) (by rw [show (g.add c' (LamX.CodeO c' (X.env.qual ++ "<lambda>"))).F c' = _ from upd_same]) (fun I0 I1 nf => Inv.know I0 I1 nf hsz (obj (Heap.get?_push_size _ rfl))) (by rw [upd_ne n2, upd_ne n1]; exact I.hok.fresh hsz)
end
end Mp

set_option Elab.async false
set_option linter.all false
set_option maxRecDepth 100000
set_option maxHeartbeats 4000000
namespace Mp
open PySem PySem.Spec L2
open PyProof.Rows hiding St
/-! ### closures: what calling one does, from a state on -/
/-- of the addresses Cs: what lay there untold lies there still -/
def Un0 (Cs : Addr → Prop) (h0 : Heap) (H0 : Hp) (h : Heap) (H : Hp) : Prop := ∀ b ob, Cs b → h0.get? b = some ob → H0 b = none → (∃ sl, h.get? b = some { ob with slots := sl }) ∧ H b = none
theorem Un0.refl {Cs : Addr → Prop} {h : Heap} {H : Hp} : Un0 Cs h H h H := fun b ob _ e n => ⟨⟨ob.slots, e⟩, n⟩
theorem Un0.trans {Cs : Addr → Prop} {h0 h1 h2 : Heap} {H0 H1 H2 : Hp} (a : Un0 Cs h0 H0 h1 H1) (b : Un0 Cs h1 H1 h2 H2) : Un0 Cs h0 H0 h2 H2 := fun x ob c e n => by
  obtain ⟨⟨sl, e1⟩, n1⟩ := a x ob c e n
  obtain ⟨⟨sl2, e2⟩, n2⟩ := b x _ c e1 n1
  exact ⟨⟨sl2, e2⟩, n2⟩
theorem Un0.of {Cs : Addr → Prop} {Y : Cx} {pins : List (Addr × Obj)} {σ : L2.St} {H : Hp} {s : Shared} (I : Inv Y pins σ H s) (h : ∀ b, Cs b → b ∉ Y.ex) : Un0 Cs Y.s_0.heap Y.H_0 s.heap H := fun b ob c e n =>
  ⟨I.base.any e n (h b c), I.base.free b ob e n (h b c)⟩
/-- a closure's mirror: its frame and number, to what a call does -/
abbrev Acts := Addr → Nat → M D
/-- what a call of the closure (L, n) is promised -/
def ClSp (K : Kx) (T : List (Addr × Str)) (B : Bg K) (f' L : Addr) (n : Nat) (act : M D) (H : Hp) (Q : VK) (E : XK) : Prop := ∃ (g : G) (ms : List (List D)), (∀ i, g.ω i = none) ∧ RM K g H ms ∧ LamX.Tabs T H ∧ B.P g H ms ∧ RV K g.F g.φ (.clo L n) (.ref f') ∧
  match act ⟨[], ms⟩ with
  | .ok d s' => ∀ v H' g', RM K g' H' s'.ms → LamX.Tabs T H' → (∀ i, g'.ω i = none) → Ext g H g' H' → RV K g'.F g'.φ d v → Q v H'
  | .err c fs s' => ∀ H' g' dx, RM K g' H' s'.ms → LamX.Tabs T H' → (∀ i, g'.ω i = none) → Ext g H g' H' → REx K g' H' fs dx → E (K.tr c) dx H'
  | .stuck => False
def ClG (P : Program) (w : World) (K : Kx) (T : List (Addr × Str)) (mg : Str → Option Value) (base : Heap) (k : Nat) (B : Bg K) (Cs : Addr → Prop) (acts : Acts) (h0 : Heap) (H0 : Hp) : Prop :=
  ∀ (A : Around) (outer : List Env) (s : Shared) (H : Hp) (f' L : Addr) (n : Nat) (Q : VK) (E : XK), A.guards = some [] → Room k A → Env0 P w K.K mg base A outer s H → Un0 Cs h0 H0 s.heap H → ClSp K T B f' L n (acts L n) H Q E →
    codeAny (model P w) A (.call (.ref f') ⟨[], []⟩) (CR (L2.CX P w) outer P w H s Q E) s
theorem ClG.mono {P : Program} {w : World} {K : Kx} {T : List (Addr × Str)} {mg : Str → Option Value} {base : Heap} {k : Nat} {B : Bg K} {Cs : Addr → Prop} {acts : Acts} {h0 h1 : Heap} {H0 H1 : Hp} (c : ClG P w K T mg base k B Cs acts h0 H0) (u : Un0 Cs h0 H0 h1 H1) : ClG P w K T mg base k B Cs acts h1 H1 :=
  fun A outer s H f' L n Q E a b d e => c A outer s H f' L n Q E a b d (u.trans e)
/-! ### a frame's own lambdas -/
def valsOf : List Sl → List Sl := List.map fun
  | .val d => .val d
  | _ => .un
theorem valsOf_get {l : List Sl} {i : Nat} {x : Sl} (h : (valsOf l)[i]? = some x) : (∃ d, x = .val d ∧ l[i]? = some (.val d)) ∨ x = .un := by
  unfold valsOf at h
  rw [List.getElem?_map] at h
  cases e : l[i]? with
  | none => rw [e] at h; cases h
  | some y =>
    rw [e] at h
    cases y with
    | val d => exact .inl ⟨d, (Option.some.inj h).symm, rfl⟩
    | un => exact .inr (Option.some.inj h).symm
    | own _ => exact .inr (Option.some.inj h).symm
    | exc _ _ => exact .inr (Option.some.inj h).symm
def runLam (env : List Sl) (m : M D) : M D := fun s => match m ⟨env, s.ms⟩ with
  | .ok d s' => .ok d ⟨s.env, s'.ms⟩
  | .err c fs s' => .err c fs ⟨s.env, s'.ms⟩
  | .stuck => .stuck
/-- the frame at L: its lambdas, from the slots' values -/
def frameActs (L : Addr) (lams : Nat → M D) (env : List Sl) : Acts := fun L' n => if L' = L then runLam (valsOf env) (lams n) else stk
/-- the slots' values stand -/
def BgL (K : Kx) (env : List Sl) (σ : L2.St) : Bg K := ⟨fun g _ _ => env.length = σ.length ∧ ∀ (i : Nat) (d : D), env[i]? = some (Sl.val d) → ∃ v : V, σ[i]? = some (some v) ∧ RV K g.F g.φ d v, fun {g H ms g' H' ms'} h e _ => ⟨h.1, fun i d q => by
  obtain ⟨v, h1, h2⟩ := h.2 i d q
  exact ⟨v, h1, e.rv h2⟩⟩⟩
section
variable {X : Cx} {pins : List (Addr × Obj)} {σ : L2.St} {H HZ : Hp} {s s1 : Shared}
/-- a lambda's names, as its frame's slots tell them -/
theorem lam_start3 {A : Around} {outer : List Env} {E : XK} {scope : Scope} {f c' : Addr} {h₁ : Heap} {tk : Nat} (I : Inv X pins σ H s) (L : LamX.LamS X.env.scope scope) (e0 : Env0 X.prog X.w X.K X.mg X.base A outer s1 HZ) (hd : A.handled = none)
    (un : Un0 (fun c => ∃ x, X.env.cells.lookup x = some c) s.heap H s1.heap HZ) (hns : h₁.Ns s1.heap.objs.size fun y => ([] : List (Str × Value)).reverse.lookup y) (kp : ∀ b o, s1.heap.get? b = some o → h₁.get? b = some o) :
    Inv (LamX.lamCx X A outer s1 HZ E scope f c') [] σ HZ { s1 with heap := h₁, toks := tk } := by
  have hfree := L.has I.ok
  have cm : ∀ {y c}, (cloFrom X.env.cells scope.names []).lookup y = some c → X.env.cells.lookup y = some c := fun {y c} e => by
    rcases cloFrom_mem (PySem.mem_of_lookup e) with hm | ⟨k1, k2⟩
    · cases hm
    · obtain ⟨d, hd⟩ := hfree _ k1 rfl
      have hd : X.env.cells.lookup y = some d := hd
      have e2 : c = d := by
        rw [k2, hd] <;> rfl
      exact e2 ▸ hd
  have look : ∀ {y}, scope.names.lookup y = some .free → ∃ c, (cloFrom X.env.cells scope.names []).lookup y = some c := fun {y} hl => mem_lookup (cloFrom_has (cells := X.env.cells) (acc := []) (PySem.mem_of_lookup hl))
  have cellK : ∀ {y : Str} {c : Addr} {v : Option Value}, X.env.cells.lookup y = some c → s.heap.IsCell c v → h₁.IsCell c v := fun {y c v} n ⟨o, ho, hd⟩ => by
    obtain ⟨⟨sl, q⟩, _⟩ := un c o ⟨y, n⟩ ho (I.freeC y c n)
    exact ⟨_, kp _ _ q, hd⟩
  have noA : ∀ b : Addr, b ∉ (LamX.lamCx X A outer s1 HZ E scope f c').ex := fun b z => absurd (show b ∈ ([] : List Addr) from z) (by simp)
  refine ⟨⟨e0.mod, L.kind, rfl, rfl, Nat.le_refl _, fun y z c e1 e2 => I.ok.inj y z c (cm e1) (cm e2), fun y hy => ?_, fun y c z _ => ?_, fun _ => hd, Around.frames_deeper e0.frames, .inr ⟨rfl, rfl⟩, fun b z => absurd z (noA b), e0.bs, e0.bsz, fun b _ _ => noA b,
      fun b z => absurd z (noA b), e0.funs, e0.frf⟩,
    rfl, e0.bare, Un.kept kp, ⟨_, hns, fun i y v e1 e2 e3 => ?_⟩, fun y c e => ?_, e0.hok.fresh (Nat.le_refl _), fun y c e => ?_, fun q hq => absurd (show q ∈ ([] : List (Addr × Obj)) ++ [] from hq) (by simp), e0.hok.kept kp, I.len⟩
  · have hy : scope.names.lookup y = some .cell ∨ scope.names.lookup y = some .free := hy
    exact hy.elim (fun hy => absurd rfl (L.own _ (PySem.mem_of_lookup hy)).2) look
  · exact nomatch (show false = true from z)
  · have e3 : Vis scope y := e3
    rcases e3 with k | k | k
    · exact absurd rfl (L.own _ (PySem.mem_of_lookup k)).1
    · exact absurd rfl (L.own _ (PySem.mem_of_lookup k)).2
    · obtain ⟨m, hn, hl⟩ := I.loc
      have fr := L.free _ (PySem.mem_of_lookup k) rfl
      obtain ⟨u, r, q⟩ := hl i y v e1 e2 (fr.elim (fun k => .inr (.inl k)) fun k => .inr (.inr k))
      obtain ⟨d, h2⟩ := look k
      refine ⟨u, r, .inr ⟨.inr k, d, h2, ?_⟩⟩
      have c1 := cm h2
      rcases q with ⟨k', _⟩ | ⟨_, c3, e', z⟩
      · have k' : X.env.scope.names.lookup y = some .local := k'
        rcases fr with k2 | k2 <;> rw [show X.env.scope.names.lookup y = _ from k2] at k' <;> cases k'
      · rw [c1] at e'
        cases e'
        exact cellK c1 z
  · obtain ⟨u, z⟩ := I.cell y c (cm e)
    exact ⟨u, cellK (cm e) z⟩
  · obtain ⟨v, o, ho, _⟩ := I.cell y c (cm e)
    exact (un c o ⟨y, cm e⟩ ho (I.freeC y c (cm e))).2
/-- what the text says of the lambda n of this frame -/
structure LamB (X : Cx) (lt : Nat → LamI) (n : Nat) : Prop where
  q : (lt n).qual = X.env.qual
  sc : (lt n).sc = X.env.scope
  L : LamX.LamS X.env.scope (lt n).scope
  b : ∀ (cl : List (Str × Addr)) (pm cv ctv : Value), bindArgs (PySem.W.kla_fn "<lambda>" (X.env.qual ++ "<lambda>") (lt n).params (lt n).body (lt n).scope cl pm cv ctv) ⟨[], []⟩ = pure []
theorem clG_of {lt : Nat → LamI} {T : List (Addr × Str)} {k : Nat} {env : List Sl} {lams : Nat → M D} (I : Inv X pins σ H s) (hcel : X.env.cells = cellsFrom (X.env.locals + 1) X.env.scope.names [])
    (hb : ∀ n, lams n = stk ∨ (LamB X lt n ∧ ∀ (A : Around) (outer : List Env) (s : Shared) (H : Hp) (E : XK) (f c' : Addr), A.guards = some [] → Room k (A.deeper (LamX.lamEnv X (lt n).scope s.heap.objs.size f c')) →
      PE (LamX.lamCx X A outer s H E (lt n).scope f c') (lt n).body (tD (K := ⟨X.K, lt⟩) ⟨T, trivB _, fun c d _ H => E c d H, none⟩ (lams n)))) :
    ClG X.prog X.w ⟨X.K, lt⟩ T X.mg X.base (k + 1) (BgL ⟨X.K, lt⟩ (valsOf env) σ) (fun c => ∃ x, X.env.cells.lookup x = some c) (frameActs X.env.locals lams env) s.heap H := by
  intro A outer s1 HZ f' L n Q E hgd hr e0 un ⟨g, ms, hω, m, tabs, bg, rv, q⟩
  unfold frameActs at q
  by_cases hL : L = X.env.locals
  · rw [if_pos hL] at q
    subst hL
    rcases hb n with hz | ⟨LB, hbody⟩
    · rw [hz] at q
      exact q.elim
    · cases rv with
      | @clo _ _ c' _ hf hc =>
        have hf := m.sub _ _ hf
        have hc := m.sub _ _ hc
        obtain ⟨⟨pm, ctv, of1⟩, _, _⟩ := e0.hok _ _ hf
        obtain ⟨⟨oc, vs, t, hoc, hdc, hvc⟩, _, _⟩ := e0.hok _ _ hc
        dsimp only at of1 hvc
        rw [LB.q, LB.sc, ← hcel] at of1
        rw [LB.q] at hvc
        refine PySem.W.kla_callFunE hr.depth of1 rfl LB.L.co LB.L.gen rfl ⟨c', oc, vs, t, rfl, hoc, hdc, hvc⟩ ?_
        rw [LB.b]
        have lim : s1.heap.NoLimit := e0.mod.nolimit.keeps fun b o e => (e0.bs b o e).1
        refine wpAny_pure (wpAny_newFunctionEnv (fun y hy => (LB.L.own y hy).2) (fun y hy => absurd hy (by simp)) (fun h₁ hns hsb => ⟨lim.fresh _ hsb, ?_⟩) LB.L.kind)
        show codeAny _ _ (.expr (lt n).body (LamX.lamEnv X (lt n).scope s1.heap.objs.size f' c')) _ _
        have kp : ∀ b o, s1.heap.get? b = some o → h₁.get? b = some o := fun b o e => hsb.extBut b o (Nat.ne_of_lt (Heap.lt_size e)) (Heap.get?_push_of_some _ e)
        have J : Inv (LamX.lamCx X A outer s1 HZ E (lt n).scope f' c') [] σ HZ { s1 with heap := h₁, toks := s1.toks + ([] : List (Str × Value)).length } := lam_start3 I LB.L e0 hr.hd un hns kp
        have h : tD (K := ⟨X.K, lt⟩) ⟨T, trivB _, fun c d _ H => E c d H, none⟩ (lams n) σ HZ Q := by
          refine ⟨g, ⟨valsOf env, ms⟩, ⟨m, ⟨bg.1, bg.2, fun i ds z => ?_, fun i c fs z => ?_, fun i a z => ?_, fun i j a z => ?_⟩, tabs, trivial⟩, ?_⟩
          · rcases valsOf_get z with ⟨d, y, _⟩ | y <;> cases y
          · rcases valsOf_get z with ⟨d, y, _⟩ | y <;> cases y
          · rw [hω i] at z; cases z
          · rw [hω i] at z; cases z
          · unfold runLam at q
            cases z : lams n ⟨valsOf env, ms⟩ with
            | stuck => rw [z] at q; exact q.elim
            | ok d s' =>
              rw [z] at q
              exact fun v H' g' r e a => q v H' g'.clr r.m.clr r.tabs (fun _ => rfl) (e.trans (clrE _ _)) a
            | err c fs s' =>
              rw [z] at q
              exact fun H' g' dx r e a => q H' g'.clr dx r.m.clr r.tabs (fun _ => rfl) (e.trans (clrE _ _)) a.clr
        refine PySem.W.kla_codeExpr (wpAny_mono ((hbody A outer s1 HZ E f' c' hgd (hr.deeper _)).run [] _ _ HZ Q J h) (fun v s' hq => ?_) fun e s' hq => hq)
        obtain ⟨w', H', J', rv, q⟩ := hq
        exact ⟨w', H', J'.os, J'.bare, J'.base, J'.hok, rv, q⟩
  · rw [if_neg hL] at q
    exact q.elim
end
end Mp

set_option Elab.async false
set_option linter.all false
set_option maxRecDepth 100000
set_option maxHeartbeats 4000000
namespace Mp
open PySem PySem.Spec L2
open PyProof.Rows hiding St
/-! ### defs that call closures they got -/
/-- as spD, what stays true told ahead -/
def spDC (K : Kx) (T : List (Addr × Str)) (n : Nat) (F : List D → M D) (B : Bg K) : Sp := fun vs H Q E => vs.length = n ∧ ∃ (g : G) (ms : List (List D)) (ds : List D), (∀ i, g.ω i = none) ∧ RM K g H ms ∧ LamX.Tabs T H ∧ B.P g H ms ∧ RVs K g.F g.φ ds vs ∧
  match F ds ⟨[], ms⟩ with
  | .ok d s' => ∀ v H' g', RM K g' H' s'.ms → LamX.Tabs T H' → (∀ i, g'.ω i = none) → Ext g H g' H' → RV K g'.F g'.φ d v → Q v H'
  | .err c fs s' => ∀ H' g' dx, RM K g' H' s'.ms → LamX.Tabs T H' → (∀ i, g'.ω i = none) → Ext g H g' H' → REx K g' H' fs dx → E (K.tr c) dx H'
  | .stuck => False
structure FnC (P : Program) (w : World) (K : Kx) (T : List (Addr × Str)) (mg : Str → Option Value) (base : Heap) (k kc : Nat) (f : Addr) (fd : FuncData) (ps : List Str) (F : Acts → List D → M D) : Prop where
  ok : ∀ (A : Around) (outer : List Env) (s : Shared) (H : Hp) (args : Args) (us : List Value) (vs : List V) (Q : VK) (E : XK) (acts : Acts) (B : Bg K) (Cs : Addr → Prop), A.guards = some [] → Room k A → Env0 P w K.K mg base A outer s H → BindsTo s fd args (ps.zip us) → Vals vs us →
    ClG P w K T mg base kc B Cs acts s.heap H → spDC K T ps.length (F acts) B vs H Q E → codeAny (model P w) A (.call (.ref f) args) (CR (L2.CX P w) outer P w H s Q E) s
  st : ∀ acts ds s, ds.length ≠ ps.length → F acts ds s = .stuck
theorem FnC.mono {P : Program} {w : World} {K : Kx} {T : List (Addr × Str)} {mg : Str → Option Value} {base : Heap} {j k kc : Nat} {f : Addr} {fd : FuncData} {ps : List Str} {F : Acts → List D → M D} (h : FnC P w K T mg base j kc f fd ps F) (hk : j ≤ k) : FnC P w K T mg base k kc f fd ps F :=
  ⟨fun A outer s H args us vs Q E acts B Cs hg hr => h.ok A outer s H args us vs Q E acts B Cs hg (hr.mono hk), h.st⟩
theorem fnC_mk {P : Program} {w : World} {K : Kx} {mg : Str → Option Value} {base : Heap} {k kc : Nat} {f : Addr} {x qual : Str} {st : Stmt} {fd : FuncData} {N ps : List Str} {T : List (Addr × Str)} {body : Acts → M Fl} (F : Fun K.K x qual st f fd) (S : FnScope N ps (defScope st))
    (hbody : ∀ (cdv : Value) (A : Around) (outer : List Env) (s : Shared) (H : Hp) (E : XK) (B : Bg K) (Cs : Addr → Prop) (acts : Acts), A.guards = some [] → Room k (A.deeper (envOfC qual (defScope st) s.heap.objs.size f cdv)) → ClG P w K T mg base kc B Cs acts s.heap H →
      PSs (Bx P w K.K mg base N qual (defScope st) f cdv A outer s H E) (defBody st) (tS (K := K) ⟨T, B, fun c d _ H => E c d H, none⟩ (body acts))) :
    FnC P w K T mg base (k + 1) kc f fd ps (fun acts => fnM N.length ps.length (body acts)) := by
  refine ⟨fun A outer s H args us vs Q E acts B Cs hgd hr e0 hbind rvu hC hsp => ?_, fun acts ds s h => by unfold fnM; rw [if_neg h]⟩
  obtain ⟨oc, od, kV, doc, pm, an, cdv, ct, osl, rfl, lk, hcd⟩ := F.ex
  obtain ⟨hl, g, ms, ds, hω, m, t, b, rv, q⟩ := hsp
  refine LamX.run_ofS lk hcd S hr e0 hbind rvu hl fun hr' => ⟨_, hbody cdv A outer s H E B Cs acts hgd hr' hC, ?_⟩
  have hds : ds.length = ps.length := rv.length.trans hl
  have hN : ps.length ≤ N.length := by have := congrArg List.length S.pre; rw [List.length_take] at this; omega
  refine ⟨g, _, RS.entry (N := N) hω m t b rv (by omega), ?_⟩
  unfold fnM at q
  rw [if_pos hds] at q
  rw [hds]
  cases z : body acts ⟨ds.map .val ++ List.replicate (N.length - ps.length) .un, ms⟩ with
  | stuck => rw [z] at q; exact q.elim
  | err c fs s' =>
    rw [z] at q
    exact fun σ' H' g' dx r e hx => q H' g'.clr dx r.m.clr r.tabs (fun _ => rfl) (e.clr hω) hx.clr
  | ok fl s' =>
    rw [z] at q
    cases fl with
    | nx => exact fun σ' H' g' r e => q .non H' g'.clr r.m.clr r.tabs (fun _ => rfl) (e.clr hω) .non
    | ret d => exact fun v σ' H' g' r e rv => q v H' g'.clr r.m.clr r.tabs (fun _ => rfl) (e.clr hω) rv
    | bk => exact q.elim
    | ct => exact q.elim
section
variable {X : Cx} {lt : Nat → LamI} {p : Pm ⟨X.K, lt⟩} {e : Expr} {es : List Expr} {pos pf : Pos} {fl : M (List D)} {j k kc : Nat} {f : Addr} {fd : FuncData} {ps : List Str} {F : Acts → List D → M D} {x : Str} {acts : Acts} {i : Nat} {Cs : Addr → Prop}
/-- x(), x a parameter that holds a closure -/
def callS (acts : Acts) (i : Nat) : M D := fun s => match s.env[i]? with
  | some (.val (.clo L n)) => onMs (acts L n) s
  | _ => .stuck
theorem d_callS (hC : ClG X.prog X.w ⟨X.K, lt⟩ p.T X.mg X.base k p.B Cs acts X.s_0.heap X.H_0) (hex : ∀ b, Cs b → b ∉ X.ex) (hgd : X.A.guards = some []) (hr : Room k X.A) (tk : Takes X p.W) (hN : X.N[i]? = some x := by kernel_rfl) (hv : X.env.scope.names.lookup x = some .local := by kernel_rfl)
    (hd : (x == ("__debug__" : Str)) = false := by kernel_rfl) (hcd : (x == ("__classdict__" : Str)) = false := by kernel_rfl) : PE X (.Call (.Name x pf) [] [] pos) (tD p (callS acts i)) := by
  refine ⟨fun pins s σ H Q I ⟨g, m, r, q⟩ => ?_⟩
  unfold callS at q
  split at q
  · rename_i L n he
    obtain ⟨v, h1, h2⟩ := r.f.env i _ he
    cases h2 with
    | @clo _ f' c' _ hf hc =>
      refine wpAny_Call_Name_kw (thn ((pe_var (pos := pf) (i := i) hN (.inl hv) hd hcd).run pins s σ H (fun v H1 => v = .ref f' ∧ H1 = H) I ⟨.ref f', h1, rfl, rfl⟩) fun u s1 ⟨v, H1, I1, r1, e1, e2⟩ => ?_)
      subst e1
      subst e2
      obtain rfl : u = Value.ref f' := r1
      obtain ⟨⟨pm, ctv, of1⟩, _, _⟩ := I1.hok f' _ (r.m.sub _ _ hf)
      refine PySem.W.callWith_F0 ⟨_, _, _, _, of1⟩ (call_of ?_)
      have sp : ClSp ⟨X.K, lt⟩ p.T p.B f' L n (acts L n) H1 Q (fun c d H' => p.W c d σ H') := by
        refine ⟨g.clr, m.ms, fun _ => rfl, r.m.clr, r.tabs, p.B.up r.bg (clrE g H1).s r.m.clr, .clo hf hc, ?_⟩
        unfold onMs at q
        cases z : acts L n ⟨[], m.ms⟩ with
        | stuck => rw [z] at q; exact q.elim
        | ok d s' =>
          rw [z] at q
          intro v H' g' m' t hω e rv'
          obtain ⟨r2, e2⟩ := r.back e m' t
          exact q v H' _ r2 e2 rv'
        | err c fs s' =>
          rw [z] at q
          intro H' g' dx m' t hω e hx
          obtain ⟨r2, e2⟩ := r.back e m' t
          exact q H' _ dx r2 e2 (wx_of r2 hx)
      refine codeAny_mono (hC X.A X.stack s1 H1 f' L n Q _ hgd hr I1.env0 (Un0.of I1 hex) sp) fun rr s' hq => ?_
      cases rr with
      | error e => exact tk e s' (XE.of_call I1 (fun cls d H' h => h) hq)
      | ok fl =>
        cases fl with
        | ret u => exact I1.after hq
        | next => exact False.elim hq
        | brk => exact False.elim hq
        | cont => exact False.elim hq
  · exact q.elim
/-- f(e, ..), some of it closures -/
def callCM (F : Acts → List D → M D) (af : S → Acts) (fl : M (List D)) : M D := bnd fl fun ds s => onMs (F (af s) ds) s
/-- where closures come from, at any state of this setting -/
def ActsOk (X : Cx) (lt : Nat → LamI) (p : Pm ⟨X.K, lt⟩) (kc : Nat) (af : S → Acts) : Prop := ∀ (pins : List (Addr × Obj)) (σ : L2.St) (H : Hp) (s : Shared) (g : G) (m : S), Inv X pins σ H s → RS p g σ H m →
  ∃ (B : Bg ⟨X.K, lt⟩) (Cs : Addr → Prop), ClG X.prog X.w ⟨X.K, lt⟩ p.T X.mg X.base kc B Cs (af m) s.heap H ∧ B.P g.clr H m.ms
theorem d_callC {af : S → Acts} (C : Cf X.K X.mg x f fd ps) (FO : FnC X.prog X.w ⟨X.K, lt⟩ p.T X.mg X.base j kc f fd ps F) (hA : ActsOk X lt p kc af) (hgd : X.A.guards = some []) (hr : Room k X.A) (tk : Takes X p.W)
    (ha : PA X (e :: es) (tL p fl)) (hj : j ≤ k := by decide) (hg : X.env.kindOf x = some .globalImplicit := by kernel_rfl) (hdb : (x == ("__debug__" : Str)) = false := by kernel_rfl) (he : starEach (e :: es) X.env = (false, eval e X.env) :: starEach es X.env := by rfl) (hpl : (backTo pos (starEach es X.env)).any (·.1) = false := by rfl) :
    PE X (.Call (.Name x pf) (e :: es) [] pos) (tD p (callCM F af fl)) := by
  refine ⟨fun pins s σ H Q I h => ?_⟩
  refine wpAny_Call_Name_kw (ld_glob I hg C.g ?_ hdb)
  refine PySem.W.callWith_K (h₀ := X.base) I.ok.mod.kin C.kp (thn (ha.run pos pins s σ H _ I (seqL preV h)) fun us s1 ⟨vs, H1, I1, r, g1, m1, ds, rs1, rv, q⟩ => ⟨I1.kIn, call_of ?_⟩) he hpl
  have q : Post p σ (AV ⟨X.K, lt⟩) (onMs (F (af m1) ds) m1) g1 H1 Q := q
  have hlen : vs.length = ps.length := by
    by_cases hz : vs.length = ps.length
    · exact hz
    · unfold onMs at q
      rw [FO.st _ ds _ (by rw [rv.length]; exact hz)] at q
      exact q.elim
  have hl : us.length = ps.length := by rw [← r.length]; exact hlen
  obtain ⟨B, Cs, hC, hB⟩ := hA pins σ H1 s1 g1 m1 I1 rs1
  have hsp : spDC ⟨X.K, lt⟩ p.T ps.length (F (af m1)) B vs H1 Q (fun c d H' => p.W c d σ H') := by
    refine ⟨hlen, g1.clr, m1.ms, ds, fun _ => rfl, rs1.m.clr, rs1.tabs, hB, rv, ?_⟩
    unfold onMs at q
    cases z : F (af m1) ds ⟨[], m1.ms⟩ with
    | stuck => rw [z] at q; exact q.elim
    | ok d s' =>
      rw [z] at q
      intro v H' g' m t hω e rv'
      obtain ⟨r2, e2⟩ := rs1.back e m t
      exact q v H' _ r2 e2 rv'
    | err c fs s' =>
      rw [z] at q
      intro H' g' dx m t hω e hx
      obtain ⟨r2, e2⟩ := rs1.back e m t
      exact q H' _ dx r2 e2 (wx_of r2 hx)
  have hb := C.b s1 us I1.kIn (by rw [List.append_nil]; exact hl)
  rw [List.append_nil] at hb
  refine codeAny_mono (FO.ok X.A X.stack s1 H1 ⟨us, []⟩ us vs Q _ (af m1) B Cs hgd (hr.mono hj) I1.env0 hb r hC hsp) fun rr s' hq => ?_
  cases rr with
  | error e => exact tk e s' (XE.of_call I1 (fun cls d H' h => h) hq)
  | ok fl =>
    cases fl with
    | ret u => exact I1.after hq
    | next => exact False.elim hq
    | brk => exact False.elim hq
    | cont => exact False.elim hq
/-- the frame's own lambdas -/
theorem acts_frame {lams : Nat → M D} (hcel : X.env.cells = cellsFrom (X.env.locals + 1) X.env.scope.names [])
    (hb : ∀ n, lams n = stk ∨ (LamB X lt n ∧ ∀ (A : Around) (outer : List Env) (s : Shared) (H : Hp) (E : XK) (f c' : Addr), A.guards = some [] → Room k (A.deeper (LamX.lamEnv X (lt n).scope s.heap.objs.size f c')) →
      PE (LamX.lamCx X A outer s H E (lt n).scope f c') (lt n).body (tD (K := ⟨X.K, lt⟩) ⟨p.T, trivB _, fun c d _ H => E c d H, none⟩ (lams n)))) :
    ActsOk X lt p (k + 1) (fun s => frameActs X.env.locals lams s.env) := fun pins σ H s g m I r =>
  ⟨_, _, clG_of I hcel hb, by
    refine ⟨?_, fun i d z => ?_⟩
    · unfold valsOf
      rw [List.length_map]
      exact r.f.len
    · rcases valsOf_get z with ⟨d', y, y2⟩ | y
      · cases y
        exact r.f.env i d y2
      · cases y⟩
/-- closures that came from around -/
theorem acts_got (hC : ClG X.prog X.w ⟨X.K, lt⟩ p.T X.mg X.base kc p.B Cs acts X.s_0.heap X.H_0) (hex : ∀ b, Cs b → b ∉ X.ex) : ActsOk X lt p kc (fun _ => acts) := fun pins σ H s g m I r =>
  ⟨_, _, hC.mono (Un0.of I hex), p.B.up r.bg (clrE g H).s r.m.clr⟩
end
/-! ### defs whose frame makes lambdas -/
/-- a mirror that names its frame: taken where the name doesn't matter -/
noncomputable def indepM (F : Addr → List D → M D) : List D → M D := fun ds s => open Classical in if ∀ L, F L ds s = F 0 ds s then F 0 ds s else .stuck
theorem indep_ok {F : Addr → List D → M D} {ds : List D} {s : S} {r : R D} (h : ∀ L, F L ds s = r) : indepM F ds s = r := by
  unfold indepM
  rw [if_pos fun L => by rw [h L, h 0], h 0]
theorem indep_or (F : Addr → List D → M D) (ds : List D) (s : S) (L : Addr) : indepM F ds s = F L ds s ∨ indepM F ds s = .stuck := by
  unfold indepM
  split
  · rename_i h
    exact .inl (h L).symm
  · exact .inr rfl
/-- a def that makes lambdas, its code object at c -/
structure FunL (K : PySem.W.Frag) (x qual : Str) (st : Stmt) (f : Addr) (fd : FuncData) (c : Addr) : Prop where
  ex : ∃ (oc : Value) (od : Option Addr) (kV doc pm : Value) (an : Option Addr) (ct : Value) (osl : Array (Option Value)), fd = PySem.W.fnOf x qual (defArgs st) (defBody st) (defScope st) .none kV doc pm an (.ref c) ct ∧ K.lookup f = some ⟨oc, od, .func fd, osl⟩ ∧ PySem.W.codeIn K (.ref c) qual = true
theorem fnD_mkL {P : Program} {w : World} {K : Kx} {mg : Str → Option Value} {base : Heap} {k : Nat} {f c : Addr} {x qual : Str} {st : Stmt} {fd : FuncData} {N ps : List Str} {T : List (Addr × Str)} {body : Addr → M Fl}
    (F : FunL K.K x qual st f fd c) (S : FnScope N ps (defScope st))
    (hbody : ∀ (A : Around) (outer : List Env) (s : Shared) (H : Hp) (E : XK) (B : Bg K), A.guards = some [] → Room k (A.deeper (envOfC qual (defScope st) s.heap.objs.size f (.ref c))) →
      PSs (Bx P w K.K mg base N qual (defScope st) f (.ref c) A outer s H E) (defBody st) (tS (K := K) ⟨T, B, fun c d _ H => E c d H, none⟩ (body s.heap.objs.size))) :
    FnD P w K T mg base (k + 1) f fd ps (indepM fun L => fnM N.length ps.length (body L)) := by
  refine ⟨⟨fun vs H Q E h => h.1, fun A outer s H args us vs Q E hgd hr e0 hbind rvu hsp => ?_⟩, fun ds s h => indep_ok fun L => by unfold fnM; rw [if_neg h]⟩
  obtain ⟨oc, od, kV, doc, pm, an, ct, osl, rfl, lk, hcd⟩ := F.ex
  obtain ⟨hl, B, g, ms, ds, hω, m, t, b, rv, q⟩ := hsp
  refine LamX.run_ofS lk hcd S hr e0 hbind rvu hl fun hr' => ⟨_, hbody A outer s H E B hgd hr', ?_⟩
  have hds : ds.length = ps.length := rv.length.trans hl
  have hN : ps.length ≤ N.length := by have := congrArg List.length S.pre; rw [List.length_take] at this; omega
  refine ⟨g, _, RS.entry (N := N) hω m t b rv (by omega), ?_⟩
  rcases indep_or (fun L => fnM N.length ps.length (body L)) ds ⟨[], ms⟩ s.heap.objs.size with hi | hi
  · rw [hi] at q
    unfold fnM at q
    rw [if_pos hds] at q
    rw [hds]
    cases z : body s.heap.objs.size ⟨ds.map .val ++ List.replicate (N.length - ps.length) .un, ms⟩ with
    | stuck => rw [z] at q; exact q.elim
    | err c fs s' =>
      rw [z] at q
      exact fun σ' H' g' dx r e hx => q H' g'.clr dx r.m.clr r.tabs (fun _ => rfl) (e.clr hω) hx.clr
    | ok fl s' =>
      rw [z] at q
      cases fl with
      | nx => exact fun σ' H' g' r e => q .non H' g'.clr r.m.clr r.tabs (fun _ => rfl) (e.clr hω) .non
      | ret d => exact fun v σ' H' g' r e rv => q v H' g'.clr r.m.clr r.tabs (fun _ => rfl) (e.clr hω) rv
      | bk => exact q.elim
      | ct => exact q.elim
  · rw [hi] at q
    exact q.elim
end Mp

set_option Elab.async false
set_option linter.all false
set_option maxRecDepth 100000
set_option maxHeartbeats 4000000
namespace Mp
open PySem PySem.Spec L2
open PyProof.Rows hiding St
/-! ### comprehensions whose parts know where they were entered -/
/-- a comprehension's frame, entered at t from X -/
def BlkIn (X : Cx) (σ : L2.St) (t : Shared) (H : Hp) (fp : List Addr) : Prop := (∃ pins, Inv X pins σ H t) ∧ ∀ b ∈ fp, ∃ pins, FpOk X pins H b
section
variable {X : Cx}
theorem lc_coreC {pins : List (Addr × Obj)} {t0 : Shared} {σ : L2.St} {H : Hp} {Q : VK} {elt tg iter : Expr} {ifs : List Expr} {scope : Scope} {own : List (Str × Nat)} {pos pos' : Pos} {wi : TI} {g : TG} {tt : TT} {te : TE} {use : Option (Value → Sem Unit)} {Qf : Value → Shared → Prop}
    (hc : X.calm = true) (hN : X.N.Nodup) (I : Inv X pins σ H t0) (hi : PI X tg iter wi) (ok : BlkOk X.N X.env.scope scope own)
    (hg : ∀ (t : Shared) (H : Hp) (C : Addr) (cl : List (Str × Addr)) (fp : List Addr), BlkIn X σ t H fp → PG (X.blk t H scope (compEnvC scope cl C X.env) fp) tg g)
    (ht : ∀ (t : Shared) (H : Hp) (C : Addr) (cl : List (Str × Addr)) (fp : List Addr), BlkIn X σ t H fp → PTs (X.blk t H scope (compEnvC scope cl C X.env) fp) ifs tt)
    (he : ∀ (t : Shared) (H : Hp) (C : Addr) (cl : List (Str × Addr)) (fp : List Addr), BlkIn X σ t H fp → PE (X.blk t H scope (compEnvC scope cl C X.env) fp) elt te) (hs : ∀ x, foldedSetIterable iter X.env x = pure x)
    (h : tLc wi g tt te (own.map (·.2)) σ H Q)
    (hR : ∀ D C t m G, Inv X pins σ G t → Q (.ref D) G → t.heap.Ns C m → FpOk X pins G C → compPost (model X.prog X.w) X.A X.xe use Qf (.ref D) C (.ok .next) t) :
    wpAny (model X.prog X.w) X.A (comprehension (.ListComp elt [⟨tg, iter, ifs, 0⟩] scope pos) scope X.env pos' (newList []) false (eval iter X.env) use) Qf X.xe t0 := by
  have fr : ∀ y ∈ scope.names, y.2 = .free → ∃ c, X.env.cells.lookup y.1 = some c := fun y hy e => (ok.free y hy e).elim (fun k => I.ok.has _ (.inl k)) fun k => I.ok.has _ (.inr k)
  refine wpAny_comprehension_free (use := use) rfl hs (closure_ok fr) ok.kind (fun y hy e => by rw [ok.uniq y hy, e]) (thn (hi.run pins t0 σ H _ I h) fun xv t1 hx => thn hx fun itv t2 h2 => ?_)
  obtain ⟨it, fp, tn, J, G2, e, I2, T, st2, f2, q⟩ := h2
  subst e
  refine wpAny_newObj_type (newEnv_comp ?_) (show 0 ≤ sizeLine from by decide)
  generalize hD : t2.heap.objs.size = D
  have nD : G2 D = none := I2.hok.fresh (Nat.le_of_eq hD)
  obtain ⟨W, ⟨m0, w0⟩, turn⟩ := q D nD
  generalize hs3 : ({ t2 with heap := t2.heap.push { cls := .type "list", data := .seq ([] : List Value).toArray } } : Shared) = t3
  have I3 : Inv X pins σ (upd G2 D (.lst [])) t3 := by
    rw [← hs3]
    refine I2.laid (t' := t2.toks) (fun b o e => Heap.get?_push_of_some _ e) (Nat.le_of_eq hD) ⟨Nat.zero_le _, [], 0, .nil, ?_⟩
    exact hD ▸ Heap.get?_push_size _ rfl
  have hp3 : t3.heap = t2.heap.push { cls := .type "list", data := .seq ([] : List Value).toArray } := by rw [← hs3]
  have f3 : ∀ b ∈ fp, FpOk X pins (upd G2 D (.lst [])) b ∧ b < t3.heap.objs.size := fun b hb => by
    obtain ⟨o, e, _⟩ := T.obj _ _ st2 b hb
    have hlt := Heap.lt_size e
    refine ⟨⟨?_, (f2 b hb).2⟩, by rw [hp3, Heap.size_push]; exact Nat.lt_succ_of_lt hlt⟩
    rw [upd_ne (hD ▸ Nat.ne_of_lt hlt)]
    exact (f2 b hb).1
  have st3 : tn 0 t3.heap := T.keep _ _ _ st2 fun b _ o e => by rw [hp3]; exact Heap.get?_push_of_some _ e
  have bi : BlkIn X σ t3 (upd G2 D (.lst [])) fp := ⟨⟨pins, I3⟩, fun b hb => ⟨pins, (f3 b hb).1⟩⟩
  have I4 := block_start I3 ok hN f3
  have pg := hg t3 (upd G2 D (.lst [])) t3.heap.objs.size (cellsFrom (t3.heap.objs.size + 1) scope.names (cloFrom X.env.cells scope.names [])) fp bi
  have pt := ht t3 (upd G2 D (.lst [])) t3.heap.objs.size (cellsFrom (t3.heap.objs.size + 1) scope.names (cloFrom X.env.cells scope.names [])) fp bi
  have pe := he t3 (upd G2 D (.lst [])) t3.heap.objs.size (cellsFrom (t3.heap.objs.size + 1) scope.names (cloFrom X.env.cells scope.names [])) fp bi
  show codeAny _ _ (.compStart (.ListComp elt [⟨tg, iter, ifs, 0⟩] scope pos) 0 (.ref it) (.ref D) (compEnvC scope (cellsFrom (t3.heap.objs.size + 1) scope.names (cloFrom X.env.cells scope.names [])) t3.heap.objs.size X.env)) (compPost (model X.prog X.w) X.A X.xe use Qf (.ref D) t3.heap.objs.size) { t3 with heap := pushCells (t3.heap.push { cls := .type "dict", data := .dict #[] }) scope.names }
  have nfp : ∀ b ∈ fp, (upd G2 D (.lst [])) b = none := fun b hb => (f3 b hb).1.1
  generalize hce : compEnvC scope (cellsFrom (t3.heap.objs.size + 1) scope.names (cloFrom X.env.cells scope.names [])) t3.heap.objs.size X.env = ce at I4 pg pt pe ⊢
  have cL : ce.locals = t3.heap.objs.size := by subst hce; rfl
  generalize hH3 : upd G2 D (.lst []) = G3 at I3 I4 pg pt pe w0 nfp f3
  generalize hs4 : ({ t3 with heap := pushCells (t3.heap.push { cls := .type "dict", data := .dict #[] }) scope.names } : Shared) = t4 at I4 ⊢
  have st4 : tn 0 t4.heap := T.keep _ _ _ st3 fun b _ o e => by rw [← hs4]; exact pushCells_keeps _ _ _ _ (Heap.get?_push_of_some _ e)
  have stat : ∀ {τ : L2.St} {G : Hp} {t : Shared}, Inv (X.blk t3 G3 scope ce fp) [] τ G t → (∀ b ∈ fp, G b = none) → ∀ b ∈ fp, FpOk (X.blk t3 G3 scope ce fp) [] G b := fun {τ G t} J' hn b hb =>
    ⟨hn b hb, (J'.ok.exf b hb).1, J'.ok.exfs b hb, .inl hb, fun x c e => (J'.ok.exf b hb).2 x c e, fun p hp => absurd (show p ∈ ([] : List (Addr × Obj)) ++ [] from hp) (by simp)⟩
  have loop : codeAny (model X.prog X.w) X.A (.compLoop (.ListComp elt [⟨tg, iter, ifs, 0⟩] scope pos) 0 (.ref it) (.ref D) ce) (compPost (model X.prog X.w) X.A X.xe use Qf (.ref D) t3.heap.objs.size) t4 := by
    refine compLoop_any (fun n t => ∃ i G, Inv (X.blk t3 G3 scope ce fp) [] (wipe σ (own.map (·.2))) G t ∧ tn i t.heap ∧ (∀ b ∈ fp, G b = none) ∧ W i n G) ?_ m0 ⟨0, G3, I4, st4, nfp, w0⟩
    rintro n t5 ⟨i, G5, I5, st5, n5, w5⟩
    rcases turn i n G5 w5 with ⟨stop, qq⟩ | ⟨go, Nx, hNx, step⟩
    · refine thnF (T.done (X.blk t3 G3 scope ce fp) rfl rfl rfl hc i [] t5 _ G5 (fun _ _ => False) I5 (stat I5 n5) st5 stop) fun r t6 ⟨hr, I6⟩ => ?_
      subst hr
      have I7 : Inv X pins σ G5 t6 := I3.call' (ch := fp) I6.os I6.base I6.hok I6.bare fun b hb => ⟨(f3 b hb).1.2.2.2.1, (f3 b hb).1.2.1, (f3 b hb).1.2.2.2.2.1, (f3 b hb).1.2.2.2.2.2⟩
      have nC : G5 t3.heap.objs.size = none := cL ▸ (show G5 ce.locals = none from I6.free)
      obtain ⟨m, hn, _⟩ := I6.loc
      have hn : t6.heap.Ns ce.locals m := hn
      exact hR D t3.heap.objs.size t6 m G5 I7 qq (cL ▸ hn) (I3.fpOk (Nat.le_refl _) nC)
    · refine thnF (T.item (X.blk t3 G3 scope ce fp) rfl rfl rfl hc i [] t5 _ G5 (fun _ _ => False) I5 (stat I5 n5) st5 go) fun r t6 ⟨u, hr, h6⟩ => ?_
      subst hr
      refine thnF h6 fun _ t7 ⟨x, G7, I7, r7, y7, st7, n7⟩ => ?_
      have I7' := I7.pinned (stat I7 n7) (T.obj _ _ st7)
      refine thnF (pg.run _ t7 _ G7 x u _ I7' r7 (step x G7 y7)) fun _ t8 ⟨σ8, G8, I8, hw8, q8⟩ => ?_
      refine thnF (pt.run _ t8 σ8 G8 _ I8 q8) fun b t9 ⟨G9, I9, q9⟩ => ?_
      have fin : ∀ {t : Shared} {G : Hp}, Inv (X.blk t3 G3 scope ce fp) ([] ++ pinsAt fp t7.heap) σ8 G t → Nx G → ∃ m, m < n ∧ ∃ i G, Inv (X.blk t3 G3 scope ce fp) [] (wipe σ (own.map (·.2))) G t ∧ tn i t.heap ∧ (∀ b ∈ fp, G b = none) ∧ W i m G := fun {t G} J' nx => by
        obtain ⟨m', hm, w'⟩ := hNx G nx
        have pin' : ∀ b ∈ fp, ∀ o, t7.heap.get? b = some o → t.heap.get? b = some o ∧ G b = none := fun b hb o e =>
          have z := J'.pin (b, o) (List.mem_append_right _ (List.mem_append_right _ (mem_pinsAt hb e)))
          ⟨z.1, z.2.1⟩
        have hl : (wipe σ (own.map (·.2))).length = σ8.length := by rw [← hw8, wipe_length]
        refine ⟨m', hm, i + 1, G, (J'.unpinned (pins := [])).weak hl (fun j v e => (wipe_some (hw8.symm ▸ e)).1), T.keep _ _ _ st7 fun b hb o e => (pin' b hb o e).1, fun b hb => ?_, w'⟩
        obtain ⟨o, e, _⟩ := T.obj _ _ st7 b hb
        exact (pin' b hb o e).2
      cases b with
      | true =>
        rw [if_pos rfl] at q9
        rw [if_pos rfl]
        refine thnF (pe.run _ t9 σ8 G9 _ I9 q9) fun z t10 ⟨yv, G10, I10, r10, acc, hD10, hz10, nx⟩ => ?_
        exact app_ok (X := X.blk t3 G3 scope ce fp) I10 hD10 hz10 r10 fun t11 I11 => fin I11 nx
      | false =>
        rw [if_neg Bool.false_ne_true] at q9
        rw [if_neg Bool.false_ne_true]
        exact fin I9 q9
  exact codeAny_compStart_list loop (T.self X.A 0 _ _ _ st4 loop)
variable {lt : Nat → LamI} {p : Pm ⟨X.K, lt⟩} {a b c tg iter elt : Expr} {pos : Pos} {fi : M (List D)} {t : Tgt} {fe : Acts → M D} {ba : Acts → M Bool} {k : Nat} {lams : Nat → M D}
/-- as lcM: test and item know the closures that the frame had made ahead -/
def lcMC (vs : List Nat) (src : M (List D)) (t : Tgt) (c : Acts → M Bool) (f : Acts → M D) (af : S → Acts) : M (List D) := bnd src fun xs s => lcM vs (ret xs) t (c (af s)) (f (af s)) s
/-- the setting in such a comprehension -/
def Pm.inBlk {K : Kx} (p : Pm K) (B : Bg K) : Pm K := { p with B := B, W := fun _ _ _ _ => False }
theorem RS.reB {K : Kx} {p : Pm K} {g : G} {σ : L2.St} {H : Hp} {s : S} (r : RS p g σ H s) {B : Bg K} (b : B.P g H s.ms) : RS { p with B := B } g σ H s := ⟨r.m, r.f, r.tabs, b⟩
/-- what a comprehension's part is told -/
def BlkC (X : Cx) (lt : Nat → LamI) (T : List (Addr × Str)) (k : Nat) (B : Bg ⟨X.K, lt⟩) (acts : Acts) (t : Shared) (H : Hp) (fp : List Addr) : Prop :=
  ∃ Cs : Addr → Prop, ClG X.prog X.w ⟨X.K, lt⟩ T X.mg X.base k B Cs acts t.heap H ∧ ∀ b, Cs b → b ∉ fp
theorem f_lcC {ifs : List Expr} {scope : Scope} {own : List (Str × Nat)} (hN : X.N.Nodup) (hi : PI X tg iter (tI p fi)) (hcel : X.env.cells = cellsFrom (X.env.locals + 1) X.env.scope.names [])
    (hb : ∀ n, lams n = stk ∨ (LamB X lt n ∧ ∀ (A : Around) (outer : List Env) (s : Shared) (H : Hp) (E : XK) (f c' : Addr), A.guards = some [] → Room k (A.deeper (LamX.lamEnv X (lt n).scope s.heap.objs.size f c')) →
      PE (LamX.lamCx X A outer s H E (lt n).scope f c') (lt n).body (tD (K := ⟨X.K, lt⟩) ⟨p.T, trivB _, fun c d _ H => E c d H, none⟩ (lams n))))
    (hg : ∀ (s : Shared) (H : Hp) (C : Addr) (cl : List (Str × Addr)) (fp : List Addr) (B : Bg ⟨X.K, lt⟩), PG (X.blk s H scope (compEnvC scope cl C X.env) fp) tg (cG (K := ⟨X.K, lt⟩) (p.inBlk B) (own.map (·.2)) t))
    (ht : ∀ (s : Shared) (H : Hp) (C : Addr) (cl : List (Str × Addr)) (fp : List Addr) (B : Bg ⟨X.K, lt⟩) (acts : Acts), BlkC X lt p.T (k + 1) B acts s H fp → PTs (X.blk s H scope (compEnvC scope cl C X.env) fp) ifs (tB (K := ⟨X.K, lt⟩) (p.inBlk B) (ba acts)))
    (he : ∀ (s : Shared) (H : Hp) (C : Addr) (cl : List (Str × Addr)) (fp : List Addr) (B : Bg ⟨X.K, lt⟩) (acts : Acts), BlkC X lt p.T (k + 1) B acts s H fp → PE (X.blk s H scope (compEnvC scope cl C X.env) fp) elt (tD (K := ⟨X.K, lt⟩) (p.inBlk B) (fe acts)))
    (ok : blkC X.N X.env.scope scope own = true := by kernel_rfl) (hc : X.calm = true := by rfl) (hs : ∀ x, foldedSetIterable iter X.env x = pure x := by intro _; rfl) :
    PE X (.ListComp elt [⟨tg, iter, ifs, 0⟩] scope pos) (tF p (lcMC (own.map (·.2)) fi t ba fe fun s => frameActs X.env.locals lams s.env)) := by
  refine ⟨fun pins s0 σ H Q I h => ?_⟩
  obtain ⟨g, s, r, q⟩ := h
  unfold lcMC bnd at q
  -- what the source's mirror hands back decides the closures
  obtain ⟨env, henv⟩ : ∃ env : List Sl, ∀ xs s1, fi s = .ok xs s1 → s1.env = env := by
    cases fi s with
    | ok xs s1 => exact ⟨s1.env, fun _ _ e => by cases e; rfl⟩
    | err c fs s1 => exact ⟨[], fun _ _ e => nomatch e⟩
    | stuck => exact ⟨[], fun _ _ e => nomatch e⟩
  obtain ⟨B, hB⟩ : ∃ B : Bg ⟨X.K, lt⟩, B = BgL ⟨X.K, lt⟩ (valsOf env) σ := ⟨_, rfl⟩
  have inn : ∀ {t : Shared} {G : Hp} {fp : List Addr}, BlkIn X σ t G fp → BlkC X lt p.T (k + 1) B (frameActs X.env.locals lams env) t G fp := fun {t G fp} ⟨⟨pins, I3⟩, hf⟩ => by
    refine ⟨_, hB ▸ clG_of I3 hcel hb, fun b ⟨x, hx⟩ hm => ?_⟩
    obtain ⟨pins, hfp⟩ := hf b hm
    exact hfp.2.2.2.2.1 x b hx rfl
  have h : tLc (tI p fi) (cG (p.inBlk B) (own.map (·.2)) t) (tB (p.inBlk B) (ba (frameActs X.env.locals lams env))) (tD (p.inBlk B) (fe (frameActs X.env.locals lams env))) (own.map (·.2)) σ H Q := by
    refine ⟨g, s, r, ?_⟩
    cases z : fi s with
    | stuck => rw [z] at q; exact q
    | err c fs s1 => rw [z] at q; exact q
    | ok xs s1 =>
      rw [z] at q
      have e1 := henv xs s1 z
      intro J H1 g1 r1 ex it
      have q : Post p σ (AF ⟨X.K, lt⟩) (lcM (own.map (·.2)) (ret xs) t (ba (frameActs X.env.locals lams s1.env)) (fe (frameActs X.env.locals lams s1.env)) s1) g H Q := q
      rw [e1] at q
      unfold lcM bnd ret at q
      dsimp only at q
      have bB : B.P g1 H1 s1.ms := by
        rw [hB]
        refine ⟨?_, fun i d y => ?_⟩
        · unfold valsOf
          rw [List.length_map, ← e1]
          exact r1.f.len
        · rcases valsOf_get y with ⟨d', y1, y2⟩ | y1
          · cases y1
            exact r1.f.env i d (e1 ▸ y2)
          · cases y1
      by_cases hcc : xs.length ≤ 100000 ∧ ∀ v ∈ own.map (·.2), v < s1.env.length
      · rw [if_pos hcc] at q
        cases z2 : lcL (own.map (·.2)) t (ba (frameActs X.env.locals lams env)) (fe (frameActs X.env.locals lams env)) xs { s1 with env := wipeE s1.env (own.map (·.2)) } with
        | stuck => rw [z2] at q; exact q.elim
        | err c fs s' => rw [z2] at q; exact q.elim
        | ok ys s2 =>
          rw [z2] at q
          have use := lc_use (p := { p with B := B }) (r1.reB bB) it hcc.1 hcc.2 z2 (Q := Q) fun v H' g' r2 e2 a => q v H' g' ⟨r2.m, r2.f, r2.tabs, p.B.up r1.bg e2.s r2.m⟩ (ex.trans e2) (preF _ _ _ _ _ _ _ _ ex a)
          exact use
      · rw [if_neg hcc] at q
        exact q.elim
  rw [eval_ListComp]
  refine lc_coreC hc hN I hi (blkOk_by ok) (fun t G C cl fp _ => hg t G C cl fp B) (fun t G C cl fp bi => ht t G C cl fp B _ (inn bi)) (fun t G C cl fp bi => he t G C cl fp B _ (inn bi)) hs h fun D C t m G J q hn f => ⟨m, hn, fun h2 sb => ?_⟩
  obtain ⟨f0, f1, f2, f3, f4, f5⟩ := f
  exact ⟨.ref D, G, J.turned (t' := t.toks) (fun b o hb e => (sb.2 b hb).trans e) f0 f1 f3 f4 f5, rfl, q⟩
end
end Mp

set_option Elab.async false
set_option linter.all false
set_option maxRecDepth 100000
set_option maxHeartbeats 4000000
namespace Mp
open PySem PySem.Spec L2
open PyProof.Rows hiding St
/-! ### sorted(xs), xs a list or a tuple of pairs of ints -/
section
variable {prog : Program} {w : World} {A : Around} {E : Value → Shared → Prop} {s : Shared}
theorem collect_ty {T : String} {l : Addr} {o : Obj} {n : Nat} {vs : List Value} {Q : List Value → Shared → Prop} (hb : (Value.type T == Value.type "list" || Value.type T == Value.type "tuple") = true) (ho : s.heap.get? l = some o) (hc : o.cls = .type T) (hd : o.data = .seq vs.toArray n)
    (h : Q vs { s with heap := (s.heap.push (seqObj "list" #[] 0)).update s.heap.objs.size (Obj.mapSeq (· ++ vs.toArray)) }) (hz : vs.length ≤ sizeLine) : wpAny (model prog w) A (collect (.ref l)) Q E s := by
  unfold collect
  refine wpAny_bind (wpAny_runValue (codeAny_builtin entry_proto_collect' ?_))
  show wpAny _ _ (do again (.builtin "list.__iadd__" ⟨[(← newList []), .ref l], []⟩)) _ _ s
  refine wpAny_bind (wpAny_newList (wpAny_pure ⟨Code.quiet_builtin _ (by decide +kernel), codeAny_builtin entry_list_iadd' ?_⟩))
  show wpAny _ _ (Builtin.List.listExtendWith (.ref s.heap.objs.size) (.ref l) (.ref s.heap.objs.size)) _ _ { heap := s.heap.push (seqObj "list" #[] 0), gens := s.gens, drawn := s.drawn, toks := s.toks, os := s.os }
  unfold Builtin.List.listExtendWith
  have hp : (s.heap.push (seqObj "list" #[] 0)).get? l = some o := Heap.get?_push_of_some _ ho
  have hn : (s.heap.push (seqObj "list" #[] 0)).get? s.heap.objs.size = some (seqObj "list" #[] 0) := Heap.get?_push_size _ rfl
  refine wpAny_bind (wpAny_typeOf (T := T) ⟨o, hp, hc⟩ ?_)
  rw [if_pos (by rw [Bool.or_assoc, hb, Bool.or_true])]
  refine wpAny_bind (listItems_at hp hd (wpAny_bind (listItems_at (xs := #[]) (n := 0) hn rfl ?_)))
  rw [if_neg (by simp)]
  refine wpAny_bind (listUpdate_at (xs := #[]) (n := 0) hn rfl (wpAny_pure ?_) (Nat.zero_le _) (by show (#[] ++ vs.toArray).size ≤ sizeLine + 1; simp only [Array.size_append, List.size_toArray, List.length_nil]; omega))
  show wpAny (model prog w) A (do
      let oo ← load s.heap.objs.size
      match oo.data with
      | .seq zs _ => pure zs.toList
      | _ => unsupported "internal:collect") Q E { heap := (s.heap.push (seqObj "list" #[] 0)).update s.heap.objs.size (Obj.mapSeq (· ++ vs.toArray)), gens := s.gens, drawn := s.drawn, toks := s.toks, os := s.os }
  refine wpAny_bind (wpAny_load (get?_update_seq hn _) ?_)
  show wpAny _ _ (pure ((#[] : Array Value) ++ vs.toArray).toList) Q E _
  rw [show ((#[] : Array Value) ++ vs.toArray).toList = vs by simp]
  exact wpAny_pure h
theorem collect_sq {l : Addr} {o : Obj} {n : Nat} {vs : List Value} {Q : List Value → Shared → Prop} (ho : s.heap.get? l = some o) (hc : o.cls = .type "list" ∨ o.cls = .type "tuple") (hd : o.data = .seq vs.toArray n)
    (h : Q vs { s with heap := (s.heap.push (seqObj "list" #[] 0)).update s.heap.objs.size (Obj.mapSeq (· ++ vs.toArray)) }) (hz : vs.length ≤ sizeLine) : wpAny (model prog w) A (collect (.ref l)) Q E s := by
  rcases hc with hc | hc
  · exact collect_ty (by rfl) ho hc hd h hz
  · exact collect_ty (by rfl) ho hc hd h hz
theorem sorted_sq {l : Addr} {o : Obj} {n : Nat} {vs : List Value} {ltv : Value → Value → Bool} {Q : Value → Shared → Prop} (O : SrtO.Swo ltv) (ho : s.heap.get? l = some o) (hc : o.cls = .type "list" ∨ o.cls = .type "tuple") (hd : o.data = .seq vs.toArray n) (hz : vs.length ≤ sizeLine)
    (hS : 2 ≤ vs.length → ∀ (k : Heap) (a : Addr), k.get? a = some (seqObj "list" vs.toArray 0) → (∀ b o, s.heap.get? b = some o → b ≠ a ∧ k.get? b = some o) → SrtO.SortableO prog w A.in1.in1 { s with heap := k } a vs ltv)
    (h : ∀ out : List Value, SrtO.Srtd ltv out → SrtO.Stb ltv out vs → Q (.ref (s.heap.objs.size + 1)) { s with heap := sortedAll s.heap vs out.toArray }) : wpAny (model prog w) A (call (.builtin "sorted") [.ref l]) Q E s := by
  refine Calls.call_function_entry kind_sorted plain_sorted entry_sorted (args_sorted1 _) ?_
  unfold Builtin.«sorted»
  refine wpAny_bind (m := checkCount "sorted" 1 1 _) (wpAny_pure (wpAny_bind (collect_sq ho hc hd (wpAny_bind (wpAny_newList ?_ hz)) hz)))
  have size2 : ((s.heap.push (seqObj "list" #[] 0)).update s.heap.objs.size (Obj.mapSeq (· ++ vs.toArray))).objs.size = s.heap.objs.size + 1 := (Heap.size_update ..).trans (size_push' _ _)
  have new2 : (((s.heap.push (seqObj "list" #[] 0)).update s.heap.objs.size (Obj.mapSeq (· ++ vs.toArray))).push (seqObj "list" vs.toArray 0)).get? (s.heap.objs.size + 1) = some (seqObj "list" vs.toArray 0) := size2 ▸ Heap.get?_push_size _ rfl
  have old : ∀ b o, s.heap.get? b = some o → b ≠ s.heap.objs.size + 1 ∧ (((s.heap.push (seqObj "list" #[] 0)).update s.heap.objs.size (Obj.mapSeq (· ++ vs.toArray))).push (seqObj "list" vs.toArray 0)).get? b = some o := fun b o q => by
    have lt : b < s.heap.objs.size := Heap.lt_size q
    refine ⟨Nat.ne_of_lt (Nat.lt_succ_of_lt lt), Heap.get?_push_of_some _ ?_⟩
    exact (Heap.get?_update_ne _ _ _ _ (Nat.ne_of_lt lt)).trans (Heap.get?_push_of_some _ q)
  show wpAny _ _ _ _ _ { heap := ((s.heap.push (seqObj "list" #[] 0)).update s.heap.objs.size (Obj.mapSeq (· ++ vs.toArray))).push (seqObj "list" vs.toArray 0), gens := s.gens, drawn := s.drawn, toks := s.toks, os := s.os }
  rw [size2]
  exact wpAny_bind (wpAny_holding (wpAny_call_entry slot_list_sort ⟨_, new2, rfl⟩ entry_list_sort (SrtO.list_sort_ord O new2 hz (fun h2 => hS h2 _ _ new2 old) fun out hs hb => ⟨_, rfl, wpAny_pure ⟨_, rfl, h out hs hb⟩⟩) (args_list_sort _)))
end
/-! the mirror -/
def pairD (p : Int × Int) : D := .tup [.int p.1, .int p.2]
def pairsOf : List D → Option (List (Int × Int))
  | [] => some []
  | .tup [.int i, .int j] :: r => (pairsOf r).map ((i, j) :: ·)
  | _ => none
theorem pairsOf_eq : ∀ {ds : List D} {ps : List (Int × Int)}, pairsOf ds = some ps → ds = ps.map pairD
  | [], _, h => by cases h; rfl
  | d :: ds, ps, h => by
    unfold pairsOf at h
    split at h
    · rename_i e
      cases e
    · rename_i i j r e
      cases e
      cases z : pairsOf ds with
      | none => rw [z] at h; cases h
      | some qs =>
        rw [z] at h
        cases h
        rw [pairsOf_eq z]
        rfl
    · cases h
theorem pairsOf_map : ∀ ps : List (Int × Int), pairsOf (ps.map pairD) = some ps
  | [] => rfl
  | (i, j) :: ps => by
    show (pairsOf (ps.map pairD)).map ((i, j) :: ·) = _
    rw [pairsOf_map ps]
    rfl
def insP (p : Int × Int) : List (Int × Int) → List (Int × Int)
  | [] => [p]
  | q :: r => if SrtO.lexB q p = true then q :: insP p r else p :: q :: r
def isortP : List (Int × Int) → List (Int × Int)
  | [] => []
  | p :: r => insP p (isortP r)
theorem insP_perm (p : Int × Int) : ∀ l, (insP p l).Perm (p :: l)
  | [] => .refl _
  | q :: r => by
    unfold insP
    split
    · exact ((insP_perm p r).cons q).trans (.swap ..)
    · exact .refl _
theorem isortP_perm : ∀ l, (isortP l).Perm l
  | [] => .refl _
  | p :: r => (insP_perm p _).trans ((isortP_perm r).cons p)
def leP (p q : Int × Int) : Prop := SrtO.lexB q p = false
theorem leP_iff {p q : Int × Int} : leP p q ↔ p.1 < q.1 ∨ (p.1 = q.1 ∧ p.2 ≤ q.2) := by
  unfold leP
  rw [SrtO.lexB_no]
  omega
theorem leP_trans {p q r : Int × Int} (a : leP p q) (b : leP q r) : leP p r := by
  rw [leP_iff] at *
  omega
theorem leP_anti {p q : Int × Int} (a : leP p q) (b : leP q p) : p = q := by
  rw [leP_iff] at *
  have h1 : p.1 = q.1 := by omega
  have h2 : p.2 = q.2 := by omega
  exact Prod.ext h1 h2
theorem insP_sorted {p : Int × Int} : ∀ {l : List (Int × Int)}, l.Pairwise leP → (insP p l).Pairwise leP
  | [], _ => List.pairwise_singleton _ _
  | q :: r, h => by
    obtain ⟨h1, h2⟩ := List.pairwise_cons.mp h
    unfold insP
    split
    · rename_i c
      refine List.pairwise_cons.mpr ⟨fun x hx => ?_, insP_sorted h2⟩
      rcases List.mem_cons.mp ((insP_perm p r).mem_iff.mp hx) with e | hx
      · subst e
        rw [leP_iff]
        have := SrtO.lexB_iff.mp c
        omega
      · exact h1 x hx
    · rename_i c
      have c' : leP p q := by unfold leP; simpa using c
      refine List.pairwise_cons.mpr ⟨fun x hx => ?_, h⟩
      rcases List.mem_cons.mp hx with e | hx
      · exact e ▸ c'
      · exact leP_trans c' (h1 x hx)
theorem isortP_sorted : ∀ l, (isortP l).Pairwise leP
  | [] => .nil
  | _ :: r => insP_sorted (isortP_sorted r)
theorem sorted_uniq : ∀ {l m : List (Int × Int)}, l.Pairwise leP → m.Pairwise leP → l.Perm m → l = m
  | [], m, _, _, h => (List.Perm.eq_nil h.symm).symm
  | x :: l, [], _, _, h => absurd h.length_eq (by simp)
  | x :: l, y :: m, hl, hm, h => by
    obtain ⟨l1, l2⟩ := List.pairwise_cons.mp hl
    obtain ⟨m1, m2⟩ := List.pairwise_cons.mp hm
    have rf : ∀ p : Int × Int, leP p p := fun p => by rw [leP_iff]; omega
    have a : leP x y := by
      rcases List.mem_cons.mp (h.mem_iff.mpr (List.mem_cons_self (a := y) (l := m))) with e | z
      · exact e ▸ rf y
      · exact l1 y z
    have b : leP y x := by
      rcases List.mem_cons.mp (h.mem_iff.mp (List.mem_cons_self (a := x) (l := l))) with e | z
      · exact e ▸ rf x
      · exact m1 x z
    obtain rfl := leP_anti a b
    rw [sorted_uniq l2 m2 h.cons_inv]
def sortO : O1 := fun x _ => match x with
  | .lst ds => if ds.length ≤ 100000 then (pairsOf ds).map fun ps => .lst ((isortP ps).map pairD) else none
  | .tup ds => if ds.length ≤ 100000 then (pairsOf ds).map fun ps => .lst ((isortP ps).map pairD) else none
  | _ => none
theorem pair_raw {X : Cx} {pins : List (Addr × Obj)} {σ : L2.St} {H : Hp} {s : Shared} (I : Inv X pins σ H s) {t : Addr} {i j : Int} (h : SqT X.K H t [.int i, .int j]) : Srt.IsPair s.heap (.ref t) i j := by
  obtain ⟨its, rv, ⟨o, ho, hc, n, hd⟩, _⟩ := I.tuple h
  cases rv with
  | cons r1 rv =>
    cases rv with
    | cons r2 rv =>
      cases rv
      obtain ⟨t1, rfl⟩ := r1
      obtain ⟨t2, rfl⟩ := r2
      exact ⟨t, o, t1, t2, n, rfl, ho, hc, hd⟩
theorem isPair_uniq {h : Heap} {v : Value} {i j k l : Int} (a : Srt.IsPair h v i j) (b : Srt.IsPair h v k l) : i = k ∧ j = l := by
  obtain ⟨x, o, t, u, n, rfl, h1, _, h2⟩ := a
  obtain ⟨x', o', t', u', n', e, h3, _, h4⟩ := b
  cases e
  rw [h1] at h3
  cases h3
  rw [h2] at h4
  cases h4
  exact ⟨rfl, rfl⟩
/-- the pair that a value is -/
noncomputable def keyV (h : Heap) (v : Value) : Int × Int := open Classical in if e : ∃ p : Int × Int, Srt.IsPair h v p.1 p.2 then e.choose else (0, 0)
theorem keyV_of {h : Heap} {v : Value} {i j : Int} (a : Srt.IsPair h v i j) : keyV h v = (i, j) := by
  have e : ∃ p : Int × Int, Srt.IsPair h v p.1 p.2 := ⟨(i, j), a⟩
  unfold keyV
  rw [dif_pos e]
  obtain ⟨z1, z2⟩ := isPair_uniq e.choose_spec a
  exact Prod.ext z1 z2
section
variable {X : Cx} {lt : Nat → LamI} {p : Pm ⟨X.K, lt⟩}
theorem pairs_raw {pins : List (Addr × Obj)} {σ : L2.St} {H : Hp} {s : Shared} {g : G} (I : Inv X pins σ H s) (sub : ∀ a o, g.F a = some o → H a = some o) : ∀ {ps : List (Int × Int)} {vs : List V} {us : List Value}, RVs ⟨X.K, lt⟩ g.F g.φ (ps.map pairD) vs → Vals vs us →
    us.map (keyV s.heap) = ps ∧ ∀ u ∈ us, (∃ t, u = .ref t) ∧ Srt.IsPair s.heap u (keyV s.heap u).1 (keyV s.heap u).2 ∧ RV ⟨X.K, lt⟩ g.F g.φ (pairD (keyV s.heap u)) (bkV u)
  | [], _, _, .nil, .nil => ⟨rfl, fun _ h => nomatch h⟩
  | (i, j) :: ps, _, _, .cons r rs, .cons q qs => by
    obtain ⟨h1, h2⟩ := pairs_raw I sub rs qs
    cases r with
    | @tup a ws _ k1 k2 =>
      cases k2 with
      | cons r1 k2 =>
        cases k2 with
        | cons r2 k2 =>
          cases k2
          cases r1
          cases r2
          obtain rfl := q
          have pr := pair_raw I (SqT.up sub k1)
          have e := keyV_of pr
          refine ⟨by rw [List.map_cons, e, h1], fun u hu => ?_⟩
          rcases List.mem_cons.mp hu with rfl | hu
          · refine ⟨⟨a, rfl⟩, by rw [e]; exact pr, ?_⟩
            rw [e]
            exact .tup k1 (.cons (.int _) (.cons (.int _) .nil))
          · exact h2 u hu
theorem c_sorted : CallR X (.builtin "sorted") (rC1 p sortO) := by
  intro pins s σ H xs us Q I r0 h
  obtain ⟨v, rfl, σ', g, s', d, z, r, a1, ho, f⟩ := h
  obtain ⟨u, rfl, ru⟩ := vals1 r0
  have src : ∃ (ds : List D) (ps : List (Int × Int)) (a : Addr) (vs : List V) (its : List Value) (o : Obj) (n : Nat), pairsOf ds = some ps ∧ z = .lst ((isortP ps).map pairD) ∧ v = .ref a ∧ RVs ⟨X.K, lt⟩ g.F g.φ ds vs ∧ Vals vs its ∧ s.heap.get? a = some o ∧ (o.cls = .type "list" ∨ o.cls = .type "tuple") ∧ o.data = .seq its.toArray n ∧ vs.length ≤ sizeLine := by
    unfold sortO at ho
    split at ho
    · rename_i ds
      split at ho
      · cases hp : pairsOf ds with
        | none => rw [hp] at ho; cases ho
        | some ps =>
          rw [hp] at ho
          cases ho
          obtain ⟨a, vs, rfl, h1, h2⟩ := a1.lst r.m
          obtain ⟨its, rv, hl, hz⟩ := I.list (SqL.of (K := X.K) h1)
          obtain ⟨o, n, e1, e2, _, e3⟩ := hl
          exact ⟨ds, ps, a, vs, its, o, n, hp, rfl, rfl, h2, rv, e1, .inl e2, e3, hz⟩
      · cases ho
    · rename_i ds
      split at ho
      · cases hp : pairsOf ds with
        | none => rw [hp] at ho; cases ho
        | some ps =>
          rw [hp] at ho
          cases ho
          obtain ⟨a, vs, rfl, h1, h2⟩ := a1.tup r.m
          obtain ⟨its, rv, ⟨o, e1, e2, n, e3⟩, hz⟩ := I.tuple h1
          exact ⟨ds, ps, a, vs, its, o, n, hp, rfl, rfl, h2, rv, e1, .inr e2, e3, hz⟩
      · cases ho
    · cases ho
  obtain ⟨ds, ps, a, vs, its, o, n, hp, rfl, rfl, rv, rvu, e1, e2, e3, hz⟩ := src
  obtain rfl : u = Value.ref a := ru
  rw [pairsOf_eq hp] at rv
  obtain ⟨hk, hm⟩ := pairs_raw I r.m.sub rv rvu
  have hz' : its.length ≤ sizeLine := by rw [← rvu.length]; exact hz
  refine sorted_sq (SrtO.swo_lex (keyV s.heap)) e1 e2 e3 hz' (fun h2 k b hb kk => ?_) fun out hs hb => ?_
  · refine SrtO.pairs_sortableO (s := { s with heap := k }) (by omega) (fun v hv => ((hm v hv).2.1).keeps fun b o e _ => (kk b o e).2) fun o e c => ?_
    have e' : some o = some (seqObj "list" its.toArray 0) := e.symm.trans hb
    cases e'
    exact absurd (Value.type.inj c) (by decide)
  · have refs : ∀ u ∈ out, ∃ t, u = Value.ref t := fun u hu => (hm u (hb.perm.mem_iff.mp hu)).1
    obtain ⟨n2, hn2⟩ := sortedAll_at s.heap its out.toArray
    have ks : out.map (keyV s.heap) = isortP ps := by
      refine sorted_uniq (List.pairwise_map.mpr hs) (isortP_sorted ps) ?_
      refine (hb.perm.map (keyV s.heap)).trans ?_
      rw [hk]
      exact (isortP_perm ps).symm
    have rvo : RVs ⟨X.K, lt⟩ g.F g.φ ((isortP ps).map pairD) (out.map bkV) := by
      rw [← ks]
      have key : ∀ l : List Value, (∀ u ∈ l, u ∈ its) → RVs ⟨X.K, lt⟩ g.F g.φ ((l.map (keyV s.heap)).map pairD) (l.map bkV) := by
        intro l
        induction l with
        | nil => intro _; exact .nil
        | cons u l ih => exact fun h => .cons (hm u (h u List.mem_cons_self)).2.2 (ih fun w hw => h w (List.mem_cons_of_mem _ hw))
      exact key out fun u hu => hb.perm.mem_iff.mp hu
    have len : out.length ≤ sizeLine := by rw [hb.perm.length_eq]; exact hz'
    have fresh : H (s.heap.objs.size + 1) = none := I.hok.fresh (Nat.le_succ _)
    exact ⟨.ref (s.heap.objs.size + 1), upd H (s.heap.objs.size + 1) (.lst (out.map bkV)), I.laid (t' := s.toks) (fun _ _ => sortedAll_old) (Nat.le_succ _) ⟨by rw [List.length_map]; exact len, out, n2, bkV_vals refs, hn2⟩, rfl, f.lst r rvo fresh⟩
theorem bb_sorted : bootBuiltins "sorted" = some (.builtin "sorted") := by decide +kernel
theorem x_sorted {a : Expr} {fa : M D} {pf pos : Pos} (hm : X.mg "sorted" = none) (ha : PE X a (tP p fa)) (hg : X.env.kindOf "sorted" = some .globalImplicit := by kernel_rfl) (he : starEach (a :: []) X.env = (false, eval a X.env) :: starEach [] X.env := by rfl) : PE X (.Call (.Name "sorted" pf) [a] [] pos) (tD p (op1 sortO fa)) := d_call1 c_sorted hg hm bb_sorted ha (by decide) (by decide) he
end
end Mp

set_option Elab.async false
set_option linter.all false
set_option maxRecDepth 100000
set_option maxHeartbeats 4000000
namespace Mp
open PySem PySem.Spec L2
open PyProof.Rows hiding St
/-! ### min(xs), max(xs) of a list of ints; xs.pop() of a slot's own list -/
def intsD : List D → Option (List Int)
  | [] => some []
  | .int i :: r => (intsD r).map (i :: ·)
  | _ => none
theorem intsD_eq : ∀ {ds : List D} {ns : List Int}, intsD ds = some ns → ds = ns.map .int
  | [], _, h => by cases h; rfl
  | d :: ds, ns, h => by
    unfold intsD at h
    split at h
    · rename_i e; cases e
    · rename_i i r e
      cases e
      cases z : intsD ds with
      | none => rw [z] at h; cases h
      | some qs =>
        rw [z] at h
        cases h
        rw [intsD_eq z]
        rfl
    · cases h
theorem intsD_map : ∀ ns : List Int, intsD (ns.map .int) = some ns
  | [] => rfl
  | i :: ns => by
    show (intsD (ns.map .int)).map (i :: ·) = _
    rw [intsD_map ns]
    rfl
theorem RVs.intsV {K : Kx} {F : Hp} {φ : List Addr} : ∀ {ns : List Int} {vs : List V}, RVs K F φ (ns.map D.int) vs → vs = ns.map V.int
  | [], _, .nil => rfl
  | _ :: _, _, .cons r t => by
    cases r
    rw [RVs.intsV t]
    rfl
def minI : Int → List Int → Int
  | m, [] => m
  | m, x :: xs => minI (if x < m then x else m) xs
def maxI : Int → List Int → Int
  | m, [] => m
  | m, x :: xs => maxI (if m < x then x else m) xs
theorem minI_spec : ∀ (m : Int) (xs : List Int), minI m xs ∈ m :: xs ∧ ∀ y ∈ m :: xs, minI m xs ≤ y
  | m, [] => by simp [minI]
  | m, x :: xs => by
    unfold minI
    obtain ⟨h1, h2⟩ := minI_spec (if x < m then x else m) xs
    generalize minI (if x < m then x else m) xs = w at h1 h2 ⊢
    refine ⟨?_, fun y hy => ?_⟩
    · rcases List.mem_cons.mp h1 with e | h
      · rw [e]
        split <;> simp
      · simp [h]
    · have h3 := h2 _ List.mem_cons_self
      rcases List.mem_cons.mp hy with e | hy
      · subst e
        split at h3 <;> omega
      · rcases List.mem_cons.mp hy with e | hy
        · subst e
          split at h3 <;> omega
        · exact h2 y (List.mem_cons_of_mem _ hy)
theorem maxI_spec : ∀ (m : Int) (xs : List Int), maxI m xs ∈ m :: xs ∧ ∀ y ∈ m :: xs, y ≤ maxI m xs
  | m, [] => by simp [maxI]
  | m, x :: xs => by
    unfold maxI
    obtain ⟨h1, h2⟩ := maxI_spec (if m < x then x else m) xs
    generalize maxI (if m < x then x else m) xs = w at h1 h2 ⊢
    refine ⟨?_, fun y hy => ?_⟩
    · rcases List.mem_cons.mp h1 with e | h
      · rw [e]
        split <;> simp
      · simp [h]
    · have h3 := h2 _ List.mem_cons_self
      rcases List.mem_cons.mp hy with e | hy
      · subst e
        split at h3 <;> omega
      · rcases List.mem_cons.mp hy with e | hy
        · subst e
          split at h3 <;> omega
        · exact h2 y (List.mem_cons_of_mem _ hy)
def minLO : O1 := fun x _ => match x with
  | .lst ds => match intsD ds with
    | some (n :: ns) => some (.int (minI n ns))
    | _ => none
  | _ => none
def maxLO : O1 := fun x _ => match x with
  | .lst ds => match intsD ds with
    | some (n :: ns) => some (.int (maxI n ns))
    | _ => none
  | _ => none
section
variable {X : Cx} {lt : Nat → LamI} {p : Pm ⟨X.K, lt⟩} {a : Expr} {fa : M D} {pf pos : Pos}
theorem c_minL (hc : X.calm = true) : CallR X (.builtin "min") (rC1 p minLO) := by
  intro pins s σ H xs us Q I r0 h
  obtain ⟨v, rfl, σ', g, s', d, z, r, a1, ho, f⟩ := h
  unfold minLO at ho
  split at ho
  · rename_i ds
    split at ho
    · rename_i n ns hn
      cases ho
      obtain ⟨a, vs, rfl, h1, h2⟩ := a1.lst r.m
      rw [intsD_eq hn] at h2
      rw [RVs.intsV h2] at h1
      refine cr_min hc pins s σ H _ us Q I r0 ⟨a, n :: ns, rfl, SqL.of h1, by simp, fun m hm1 hm2 => ?_⟩
      obtain ⟨k1, k2⟩ := minI_spec n ns
      have e : m = minI n ns := Int.le_antisymm (hm2 _ k1) (k2 m hm1)
      rw [e]
      exact f.now r (.int _)
    · cases ho
  · cases ho
theorem c_maxL (hc : X.calm = true) : CallR X (.builtin "max") (rC1 p maxLO) := by
  intro pins s σ H xs us Q I r0 h
  obtain ⟨v, rfl, σ', g, s', d, z, r, a1, ho, f⟩ := h
  unfold maxLO at ho
  split at ho
  · rename_i ds
    split at ho
    · rename_i n ns hn
      cases ho
      obtain ⟨a, vs, rfl, h1, h2⟩ := a1.lst r.m
      rw [intsD_eq hn] at h2
      rw [RVs.intsV h2] at h1
      refine cr_max hc pins s σ H _ us Q I r0 ⟨a, n :: ns, rfl, SqL.of h1, by simp, fun m hm1 hm2 => ?_⟩
      obtain ⟨k1, k2⟩ := maxI_spec n ns
      have e : m = maxI n ns := Int.le_antisymm (k2 m hm1) (hm2 _ k1)
      rw [e]
      exact f.now r (.int _)
    · cases ho
  · cases ho
theorem x_minL (hm : X.mg "min" = none) (ha : PE X a (tP p fa)) (hc : X.calm = true := by rfl) (hg : X.env.kindOf "min" = some .globalImplicit := by kernel_rfl) (he : starEach (a :: []) X.env = (false, eval a X.env) :: starEach [] X.env := by rfl) : PE X (.Call (.Name "min" pf) [a] [] pos) (tD p (op1 minLO fa)) := d_call1 (c_minL hc) hg hm bb_min ha (by decide) (by decide) he
theorem x_maxL (hm : X.mg "max" = none) (ha : PE X a (tP p fa)) (hc : X.calm = true := by rfl) (hg : X.env.kindOf "max" = some .globalImplicit := by kernel_rfl) (he : starEach (a :: []) X.env = (false, eval a X.env) :: starEach [] X.env := by rfl) : PE X (.Call (.Name "max" pf) [a] [] pos) (tD p (op1 maxLO fa)) := d_call1 (c_maxL hc) hg hm bb_max ha (by decide) (by decide) he
/-- name.pop(), its value not used -/
def popS (i : Nat) : M Fl := fun s => match ownOf s i with
  | some (x :: xs) => .ok .nx { s with env := s.env.set i (.own (x :: xs).dropLast) }
  | _ => .stuck
theorem RVs.dropLast {K : Kx} {F : Hp} {φ : List Addr} {ds : List D} {vs : List V} (h : RVs K F φ ds vs) : RVs K F φ ds.dropLast vs.dropLast := by
  rw [List.dropLast_eq_take, List.dropLast_eq_take, h.length]
  exact h.take _
theorem spop (i : Nat) {x : Str} {px pa : Pos} (hN : X.N[i]? = some x := by kernel_rfl) (hv : X.env.scope.names.lookup x = some .local := by kernel_rfl) (hs : swapsWith (.Call (.Attribute (.Name x px) "pop" pa) [] [] pos) none pos.line X.env = pure false := by rfl)
    (hb : attributeBase (.Name x px) "pop" X.env (eval (.Name x px) X.env) = eval (.Name x px) X.env := by rfl) (hl : (pa.endLine == pos.line) = true := by rfl) (hd : (x == ("__debug__" : Str)) = false := by kernel_rfl) (hcd : (x == ("__classdict__" : Str)) = false := by kernel_rfl) :
    PS X (.Expr (.Call (.Attribute (.Name x px) "pop" pa) [] [] pos) pos) (tS p (popS i)) :=
  (ps_expr (pe_bm0 PySem.F.plainAttrs_list PySem.F.slot_list_pop PySem.F.type_list_pop mt_pop (pe_var hN (.inl hv) hd hcd) hb hl) hs).imp fun D σ H ⟨g, s, r, q⟩ => by
    unfold popS at q
    cases z : ownOf s i with
    | none => rw [z] at q; exact q.elim
    | some xs =>
      rw [z] at q
      cases xs with
      | nil => exact q.elim
      | cons y ys =>
        obtain ⟨a0, vs0, h1, h2, h3, h4, h5, h6⟩ := own_addr r z
        have hlen := h4.length
        have hpos : 0 < vs0.length := by rw [← hlen]; simp
        refine ⟨.ref a0, h2, .inl ⟨rfl, _, SqL.of h3⟩, a0, vs0, vs0[vs0.length - 1]'(by omega), rfl, rfl, h3, List.getElem?_eq_getElem _, ?_⟩
        exact q σ _ g (r.ownw (ownOf_at z) h1 h2 h3 h4.dropLast h5 h6) (g.ownE h1)
end
end Mp

set_option Elab.async false
set_option linter.all false
set_option maxRecDepth 100000
set_option maxHeartbeats 4000000
namespace Mp
open PySem PySem.Spec L2
open PyProof.Rows hiding St
/-! ### parts of the text by their way -/
def kids : Expr → List Expr
  | .Call f as ks _ => f :: (as ++ ks.map (·.value))
  | .List es _ => es
  | .Tuple es _ _ => es
  | .Compare l _ cs _ => l :: cs
  | .BoolOp _ vs _ => vs
  | .UnaryOp _ e _ => [e]
  | .BinOp l _ r _ => [l, r]
  | .IfExp a b c _ => [a, b, c]
  | .Subscript v s _ => [v, s]
  | .Attribute v _ _ => [v]
  | .ListComp e gs _ _ => e :: gs.flatMap fun g => g.iter :: g.ifs
  | _ => []
def stE : Stmt → List Expr
  | .Assign _ v _ => [v]
  | .Expr v _ => [v]
  | .Return (some v) _ => [v]
  | .If t _ _ _ => [t]
  | .For _ it _ _ _ => [it]
  | .While t _ _ _ => [t]
  | _ => []
def hdB : ExceptHandler → List Stmt
  | .ExceptHandler _ _ b _ => b
def stB : Stmt → List Stmt
  | .If _ b o _ => b ++ o
  | .For _ _ b _ _ => b
  | .While _ b _ _ => b
  | .Try b hs _ _ _ => b ++ hs.flatMap hdB
  | .ClassDef _ _ _ b _ _ _ _ _ _ _ => b
  | _ => []
def p00 : Pos := ⟨0, 0, 0, 0⟩
def eAt (e : Expr) (i : Nat) : Expr := (kids e).getD i (.Name "" p00)
def sAt (b : List Stmt) (i : Nat) : Stmt := b.getD i (.Pass p00)
def seAt (s : Stmt) (i : Nat) : Expr := (stE s).getD i (.Name "" p00)
def noArgs : Arguments := { posonlyargs := [], args := [], vararg := none, kwonlyargs := [], kw_defaults := [], kwarg := none, defaults := [] }
def lamP : Expr → Arguments
  | .Lambda p _ _ _ => p
  | _ => noArgs
def lamBd : Expr → Expr
  | .Lambda _ b _ _ => b
  | e => e
def lamSc : Expr → Scope
  | .Lambda _ _ s _ => s
  | _ => { kind := .function, names := [], isGenerator := false, isCoroutine := false }
/-- the lambda l is this one -/
structure LamE (l : LamI) (q : Str) (sc : Scope) (e : Expr) : Prop where
  q : l.qual = q
  sc : l.sc = sc
  p : l.params = lamP e
  b : l.body = lamBd e
  s : l.scope = lamSc e
theorem LamE.mk' {l : LamI} {q q' : Str} {sc sc' scope : Scope} {e body : Expr} {params : Arguments} (h : LamE l q sc e) (h1 : q = q') (h2 : sc = sc') (h3 : lamP e = params) (h4 : lamBd e = body) (h5 : lamSc e = scope) : l = ⟨q', sc', params, body, scope, l.cls⟩ := by
  obtain ⟨a1, a2, a3, a4, a5, a6⟩ := l
  obtain ⟨k1, k2, k3, k4, k5⟩ := h
  dsimp only at k1 k2 k3 k4 k5
  subst k1 k2 k3 k4 k5 h1 h2 h3 h4 h5
  rfl
section
variable {X : Cx} {lt : Nat → LamI} {p : Pm ⟨X.K, lt⟩} {params : Arguments} {body e : Expr} {scope sc : Scope} {pos : Pos} {c P : Addr} {n : Nat} {q : Str}
theorem x_lam (k : LamK X p.T c P) (h : LamE (lt n) q sc e) (h1 : q = X.env.qual := by kernel_rfl) (h2 : sc = X.env.scope := by kernel_rfl) (h3 : lamP e = params := by kernel_rfl) (h4 : lamBd e = body := by kernel_rfl) (h5 : lamSc e = scope := by kernel_rfl)
    (L : LamX.lamSB X.env.scope scope = true := by kernel_rfl) (hdef : defaultsOf params X.env = ([], []) := by rfl) : PE X (.Lambda params body scope pos) (tD p (cloM X.env.locals n)) := d_lam k (h.mk' h1 h2 h3 h4 h5) (LamX.lamS_by L) hdef
theorem lamB_mk (h : LamE (lt n) q sc e) (h1 : q = X.env.qual := by kernel_rfl) (h2 : sc = X.env.scope := by kernel_rfl) (h3 : lamP e = noArgs := by kernel_rfl) (L : LamX.lamSB X.env.scope (lamSc e) = true := by kernel_rfl) : LamB X lt n :=
  ⟨h.q.trans h1, h.sc.trans h2, by rw [h.s]; exact LamX.lamS_by L, fun cl pm cv ctv => by rw [h.p, h.b, h.s, h3]; rfl⟩
/-- one of a frame's lambdas -/
theorem lam_one {T : List (Addr × Str)} {k : Nat} {lams : Nat → M D} {m : M D} (h : LamE (lt n) q sc e) (B : LamB X lt n) (hm : lams n = m)
    (hb : ∀ (A : Around) (outer : List Env) (s : Shared) (H : Hp) (E : XK) (f c' : Addr), A.guards = some [] → Room k (A.deeper (LamX.lamEnv X (lamSc e) s.heap.objs.size f c')) → PE (LamX.lamCx X A outer s H E (lamSc e) f c') (lamBd e) (tD (K := ⟨X.K, lt⟩) ⟨T, trivB _, fun c d _ H => E c d H, none⟩ m)) :
    lams n = stk ∨ (LamB X lt n ∧ ∀ (A : Around) (outer : List Env) (s : Shared) (H : Hp) (E : XK) (f c' : Addr), A.guards = some [] → Room k (A.deeper (LamX.lamEnv X (lt n).scope s.heap.objs.size f c')) →
      PE (LamX.lamCx X A outer s H E (lt n).scope f c') (lt n).body (tD (K := ⟨X.K, lt⟩) ⟨T, trivB _, fun c d _ H => E c d H, none⟩ (lams n))) :=
  .inr ⟨B, by rw [hm, h.s, h.b]; exact hb⟩
/-- the closures in a comprehension -/
theorem acts_blk {T : List (Addr × Str)} {k : Nat} {B : Bg ⟨X.K, lt⟩} {acts : Acts} {t : Shared} {H : Hp} {fp : List Addr} {scope : Scope} {env : Env} (p : Pm ⟨X.K, lt⟩) (hT : p.T = T) (bc : BlkC X lt T k B acts t H fp) : ActsOk (X.blk t H scope env fp) lt (p.inBlk B) k (fun _ => acts) := by
  subst hT
  obtain ⟨Cs, hC, hx⟩ := bc
  exact acts_got (X := X.blk t H scope env fp) (p := p.inBlk B) hC hx
end
theorem names_mk {X : Cx} {x : Str} {c : Value} (hm : X.mg x = some c) (hg : X.env.kindOf x = some .globalImplicit := by kernel_rfl) (hd : (x == ("__debug__" : Str)) = false := by kernel_rfl) : Names X x c := ⟨hg, hd, .inl hm⟩
/-! ### the head's facts -/
theorem oexC_mk {K : PySem.W.Frag} {C : Addr} {nm q : Str} {N : Addr} {bs bm : List Value} {sn : List Str} {sub ab col} {dd : Option Addr} {k0 k1 k2 k3 k5 : Option Value} (h : K.lookup C = some (excClassObj nm q C N bs bm true sn sub ab col dd k0 k1 k2 k3 k5 "ValueError.__new__")) (hb : PySem.HandSPX.refsVE bm = true)
    (sa : PySem.W.findIn K (.ref C) "__setattr__" = some (some (.builtin "object.__setattr__"))) (ex : PySem.W.subIn K (.ref C) (.type "BaseException") = some true) (ty : PySem.W.typeIn K (.ref C) = some (.type "type")) (kc : PySem.W.keepIn K (.ref C) = true) : OexC K C :=
  ⟨⟨nm, q, N, bs, bm, sn, sub, ab, col, dd, k0, k1, k2, k3, k5, h, hb⟩, sa, ex, ty, kc⟩
end Mp

set_option Elab.async false
set_option linter.all false
set_option maxRecDepth 100000
set_option maxHeartbeats 4000000
namespace Mp
open PySem PySem.Spec L2
open PyProof.Rows hiding St
/-! ### a, b, .. = a tuple or a list -/
def tgtT2 (n : Nat) (u : List D → M Unit) : Tgt := fun d => match d with
  | .tup xs => if xs.length = n then u xs else stk
  | .lst xs => if xs.length = n then u xs else stk
  | _ => stk
section
variable {X : Cx} {lt : Nat → LamI} {p : Pm ⟨X.K, lt⟩} {es : List Expr} {pos : Pos}
theorem g_tupl {k n : Nat} {u : List D → M Unit} (hc : X.calm = true) (h : PGs X es (gGs p u)) (hn : (assignEach es X.env).length = n := by rfl) (hst : (assignEach es X.env).findIdx? (·.1) = none := by rfl) : PG X (.Tuple es k pos) (gG p (tgtT2 n u)) := by
  refine ⟨fun pins s σ H x v Q I r q => ?_⟩
  obtain ⟨g, m, d, rs, rv, q⟩ := q
  unfold tgtT2 at q
  split at q
  · rename_i xs
    exact (g_tup hc h hn hst).run pins s σ H x v Q I r ⟨g, m, .tup xs, rs, rv, q⟩
  · rename_i xs
    by_cases hl : xs.length = n
    · rw [if_pos hl] at q
      cases rv with
      | @lst a vs _ h1 h2 => exact (pg_unl hc h hn hst).run pins s σ H _ v Q I r ⟨a, vs, rfl, SqL.of (rs.m.sub _ _ h1), by rw [← h2.length]; exact hl, g, m, xs, rs, h2, q⟩
    · rw [if_neg hl] at q
      exact q.elim
  · exact q.elim
end
end Mp

set_option Elab.async false
set_option linter.all false
set_option maxRecDepth 100000
set_option maxHeartbeats 4000000
namespace Mp
open PySem PySem.Spec L2
open PyProof.Rows hiding St
/-! ### the head's facts about classes and about defs that make lambdas -/
def initShape (f v : Str) (st : Stmt) : Bool := match defBody st with
  | [.Assign [.Attribute (.Name s _) g _] (.Name w _) _] => decide (s = "self") && decide (g = f) && decide (w = v)
  | _ => false
theorem initShape_ok {f v : Str} {st : Stmt} (h : initShape f v st = true) : ∃ p1 p2 p3 pos, defBody st = [.Assign [.Attribute (.Name "self" p1) f p2] (.Name v p3) pos] := by
  unfold initShape at h
  split at h
  · rename_i e
    simp only [Bool.and_eq_true, decide_eq_true_eq] at h
    obtain ⟨⟨rfl, rfl⟩, rfl⟩ := h
    exact ⟨_, _, _, _, e⟩
  · cases h
/-- an __init__ with one default, None or any other -/
theorem initK_dflt {K : PySem.W.Frag} {x qual v f : Str} {st : Stmt} {fI T : Addr} {oc : Value} {od od' an : Option Addr} {kV doc pm cdv ct dv : Value} {osl sl : Array (Option Value)} {m : Nat} {d : V}
    (l : K.lookup fI = some ⟨oc, od, .func (PySem.W.fnOf x qual (defArgs st) (defBody st) (defScope st) (.ref T) kV doc pm an cdv ct), osl⟩) (hcd : PySem.W.codeIn K cdv qual = true) (kp : PySem.W.keepIn K (.ref fI) = true)
    (lT : K.lookup T = some ⟨.type "tuple", od', .seq #[dv] m, sl⟩) (rd : RelV d dv) (S : FnScope ["self", v] ["self", v] (defScope st)) (hb : initShape f v st = true) (v1 : Vis (defScope st) "self") (v2 : Vis (defScope st) v)
    (hB : ∀ (T : Addr) (kV doc pm : Value) (an : Option Addr) (cdv ct : Value) (us its : List Value), us.length = 2 → its.length = 1 →
      ∃ k, bindArgs (PySem.W.fnOf x qual (defArgs st) (defBody st) (defScope st) (.ref T) kV doc pm an cdv ct) ⟨us, []⟩ = seqItems? (.ref T) >>= k ∧ k (some its.toArray) = pure ((["self", v] : List Str).zip (us ++ its.drop 1)))
    (hd : (v == ("__debug__" : Str)) = false := by decide) (hcl : (v == ("__classdict__" : Str)) = false := by decide) : InitK K f v fI := by
  have F : FunD K x qual (defArgs st) (defBody st) (defScope st) [d] [] fI _ := ⟨⟨oc, od, .ref T, kV, doc, pm, an, cdv, ct, osl, rfl, l, hcd, .inr ⟨by simp, T, _, [dv], m, rfl, lT, rfl, .cons rd .nil⟩, .inl rfl⟩, kp⟩
  obtain ⟨ds, h1, h2⟩ := F.binds1 (ps := ["self", v]) 2 1 (by simp) rfl hB
  have e : ds = [] := by
    have h1 : Vals [] ds := h1
    cases h1
    rfl
  subst e
  obtain ⟨p1, p2, p3, pos, hb⟩ := initShape_ok hb
  exact initK_mk (st := st) ⟨oc, od, .ref T, kV, doc, pm, an, cdv, ct, osl, rfl, l, hcd⟩ S hb h2 v1 v2 hd hcl
theorem clsPack {K : PySem.W.Frag} {h : Heap} (X : K.In h) (P : PySem.W.Frag → Prop) (p : P K) : P K := p
theorem fun_getL {K : PySem.W.Frag} {h : Heap} {mg : Str → Option Value} {x : Str} {st : Stmt} {f c P : Addr} {oc : Value} {od an : Option Addr} {osl : Array (Option Value)} {kV doc pm ct : Value} {ts : List Addr} (X : K.In h) (G : h.Ns mainGlobals mg) (Y : ∀ P ∈ ts, h.get? P = some ({ cls := .none, data := .fields #[] } : Obj))
    (a : PySem.W.nsIn K mainGlobals x = some (some (.ref f))) (l : K.lookup f = some ⟨oc, od, .func (PySem.W.fnOf x x (defArgs st) (defBody st) (defScope st) .none kV doc pm an (.ref c) ct), osl⟩)
    (cd : PySem.W.codeIn K (.ref c) x = true) (k : PySem.W.keepIn K (.ref f) = true) {q0 : Value} {q1 : Option Addr} {vs : Array Value} {q2 : Array (Option Value)} (tb : K.lookup c = some ⟨q0, q1, .fields vs, q2⟩) (t11 : (vs[11]? : Option Value) = some (.ref P)) (hd : PySem.W.codeHdIn K c P = true) (nP : K.lookup P = none) (hm : P ∈ ts) :
    ∃ (f : Addr) (fd : FuncData) (c P : Addr), FunL K x x st f fd c ∧ Fun K x x st f fd ∧ mg x = some (.ref f) ∧ PySem.W.CodeHd h c P ∧ K.lookup P = none ∧ h.get? P = some ({ cls := .none, data := .fields #[] } : Obj) :=
  ⟨f, _, c, P, ⟨oc, od, kV, doc, pm, an, ct, osl, rfl, l, cd⟩, fun_mk l cd k, PySem.W.mg_of X G a, PySem.W.codeHd_of_K X hd, nP, Y P hm⟩
end Mp

set_option linter.all false
set_option maxRecDepth 100000
/-! ratios and small steps, in plain Lean -/
namespace Mp
theorem at0 {α : Type} {a : α} {l : List α} : L2.atI (a :: l) 0 = some a := by simp [L2.atI, L2.ixN]
theorem at1 {α : Type} {a b : α} {l : List α} : L2.atI (a :: b :: l) 1 = some b := by
  have : (1 : Int) < (l.length : Int) + 1 + 1 := by omega
  simp [L2.atI, L2.ixN, this]
theorem at2 {α : Type} {a b c : α} {l : List α} : L2.atI (a :: b :: c :: l) 2 = some c := by
  have : (2 : Int) < (l.length : Int) + 1 + 1 + 1 := by omega
  simp [L2.atI, L2.ixN, this]
theorem atN {α : Type} {l : List α} {i : Nat} {a : α} (h : l[i]? = some a) : L2.atI l (i : Int) = some a := by
  have hi : i < l.length := (List.getElem?_eq_some_iff.mp h).1
  have : ((i : Nat) : Int) < (l.length : Int) := by omega
  have h0 : (0 : Int) ≤ (i : Int) := by omega
  simp only [L2.atI, L2.ixN, h0, this, if_true, Option.bind_some, Int.toNat_natCast, h]
theorem log2_lt_of {m n : Nat} (h : m < 2 ^ n) (h0 : 0 < n) : m.log2 < n := by
  by_cases e : m = 0
  · subst e; simpa using h0
  · exact (Nat.log2_lt e).mpr h
theorem pow_le2 {a b : Nat} (h : a ≤ b) : 2 ^ a ≤ 2 ^ b := Nat.pow_le_pow_right (by decide) h
theorem mulOk_of {i j : Int} {n m : Nat} (h1 : i.natAbs < 2 ^ n) (h2 : j.natAbs < 2 ^ m) (h : n + m ≤ 900000) : mulOk i j = true := by
  have e1 := log2_lt_of (Nat.lt_of_lt_of_le h1 (pow_le2 (Nat.le_succ n))) (Nat.succ_pos n)
  have e2 := log2_lt_of (Nat.lt_of_lt_of_le h2 (pow_le2 (Nat.le_succ m))) (Nat.succ_pos m)
  unfold mulOk
  rw [decide_eq_true_eq]
  omega
theorem divOk_of {j : Int} {n : Nat} (h0 : 0 < j) (h1 : j.natAbs < 2 ^ n) (h : n ≤ 9000) : divOk j = true := by
  have e1 := log2_lt_of (Nat.lt_of_lt_of_le h1 (pow_le2 h)) (by decide)
  unfold divOk
  rw [Bool.and_eq_true, decide_eq_true_eq, decide_eq_true_eq]
  exact ⟨by omega, e1⟩
theorem eq_int (a b : Int) (s : S) : eqO (.int a) (.int b) s = some (.bl (decide (a = b))) := by
  have h : ∀ i : Int, PySem.SeqAt.shaped (.int i) = true := fun i => by rfl
  simp only [eqO, eqD, D.py, h, PySem.PyData.eqv, Bool.and_self, if_true, Option.map_some]
  have e : (a == b) = decide (a = b) := rfl
  rw [e]
theorem ne_int (a b : Int) (s : S) : neO (.int a) (.int b) s = some (.bl (!decide (a = b))) := by
  have h : ∀ i : Int, PySem.SeqAt.shaped (.int i) = true := fun i => by rfl
  simp only [neO, eqD, D.py, h, PySem.PyData.eqv, Bool.and_self, if_true, Option.map_some]
  have e : (a == b) = decide (a = b) := rfl
  rw [e]
/-- a ratio -/
def rd (q : Rat) : D := .tup [.int q.num, .int (q.den : Int)]
def Bd (n : Nat) (q : Rat) : Prop := q.num.natAbs < 2 ^ n ∧ q.den < 2 ^ n
theorem Bd.mono {n m : Nat} {q : Rat} (h : Bd n q) (e : n ≤ m) : Bd m q := ⟨Nat.lt_of_lt_of_le h.1 (pow_le2 e), Nat.lt_of_lt_of_le h.2 (pow_le2 e)⟩
theorem Bd.den {n : Nat} {q : Rat} (h : Bd n q) : ((q.den : Int)).natAbs < 2 ^ n := by simpa using h.2
theorem den_pos (q : Rat) : (0 : Int) < (q.den : Int) := by
  have := q.den_nz
  omega
theorem num_low {n u : Int} (hu : 0 < u) : n.fdiv ((Nat.gcd n.natAbs u.natAbs : Nat) : Int) = (Rat.divInt n u).num := by
  rw [Rat.num_divInt, Int.sign_eq_one_of_pos hu, Int.one_mul, Int.fdiv_eq_ediv_of_nonneg _ (by omega)]
  show n / ((Nat.gcd n.natAbs u.natAbs : Nat) : Int) = n / ((Nat.gcd u.natAbs n.natAbs : Nat) : Int)
  rw [Nat.gcd_comm]
theorem den_low {n u : Int} (hu : 0 < u) : u.fdiv ((Nat.gcd n.natAbs u.natAbs : Nat) : Int) = ((Rat.divInt n u).den : Int) := by
  rw [Rat.den_divInt, if_neg (by omega), Int.fdiv_eq_ediv_of_nonneg _ (by omega)]
  show u / ((Nat.gcd n.natAbs u.natAbs : Nat) : Int) = ((u.natAbs / Nat.gcd u.natAbs n.natAbs : Nat) : Int)
  rw [Nat.gcd_comm, Int.natCast_ediv]
  congr 1
  omega
theorem gcd_pos {n u : Int} (hu : 0 < u) : (0 : Int) < ((Nat.gcd n.natAbs u.natAbs : Nat) : Int) := by
  have : 0 < Nat.gcd n.natAbs u.natAbs := Nat.gcd_pos_of_pos_right _ (by omega)
  omega
theorem gcd_lt {n u : Int} {k : Nat} (hu : 0 < u) (h : u.natAbs < 2 ^ k) : ((Nat.gcd n.natAbs u.natAbs : Nat) : Int).natAbs < 2 ^ k := by
  have : Nat.gcd n.natAbs u.natAbs ≤ u.natAbs := Nat.gcd_le_right _ (by omega)
  omega
theorem low_ok {n u : Int} {k : Nat} (hu : 0 < u) (h : u.natAbs < 2 ^ k) (hk : k ≤ 9000) : divOk ((Nat.gcd n.natAbs u.natAbs : Nat) : Int) = true := divOk_of (gcd_pos hu) (gcd_lt hu h) hk
theorem low_eq {n u : Int} (hu : 0 < u) : D.tup [.int (n.fdiv ((Nat.gcd n.natAbs u.natAbs : Nat) : Int)), .int (u.fdiv ((Nat.gcd n.natAbs u.natAbs : Nat) : Int))] = rd (Rat.divInt n u) := by
  rw [num_low hu, den_low hu]; rfl
/-- lowering makes nothing longer -/
theorem Bd.low {n u : Int} {k : Nat} (hu : 0 < u) (h1 : n.natAbs < 2 ^ k) (h2 : u.natAbs < 2 ^ k) : Bd k (Rat.divInt n u) := by
  constructor
  · rw [Rat.num_divInt, Int.sign_eq_one_of_pos hu, Int.one_mul]
    exact Nat.lt_of_le_of_lt (Int.natAbs_ediv_le_natAbs _ _) h1
  · rw [Rat.den_divInt, if_neg (by omega)]
    exact Nat.lt_of_le_of_lt (Nat.div_le_self _ _) h2
theorem bits_mul {a b : Int} {n m : Nat} (h1 : a.natAbs < 2 ^ n) (h2 : b.natAbs < 2 ^ m) : (a * b).natAbs < 2 ^ (n + m) := by
  rw [Int.natAbs_mul, Nat.pow_add]
  exact Nat.mul_lt_mul'' h1 h2
theorem bits_add {a b : Int} {n : Nat} (h1 : a.natAbs < 2 ^ n) (h2 : b.natAbs < 2 ^ n) : (a + b).natAbs < 2 ^ (n + 1) := by
  have : (a + b).natAbs ≤ a.natAbs + b.natAbs := Int.natAbs_add_le a b
  rw [Nat.pow_succ]
  omega
theorem bits_sub {a b : Int} {n : Nat} (h1 : a.natAbs < 2 ^ n) (h2 : b.natAbs < 2 ^ n) : (a - b).natAbs < 2 ^ (n + 1) := by
  have : (a - b).natAbs ≤ a.natAbs + b.natAbs := Int.natAbs_sub_le a b
  rw [Nat.pow_succ]
  omega
theorem bits_up {a : Int} {n m : Nat} (h : a.natAbs < 2 ^ n) (e : n ≤ m) : a.natAbs < 2 ^ m := Nat.lt_of_lt_of_le h (pow_le2 e)
theorem add_low (x y : Rat) : Rat.divInt (x.num * y.den + y.num * x.den) (x.den * y.den) = x + y := by
  have := Rat.divInt_add_divInt x.num y.num (d₁ := x.den) (d₂ := y.den) (by have := x.den_nz; omega) (by have := y.den_nz; omega)
  rw [Rat.num_divInt_den, Rat.num_divInt_den] at this
  exact this.symm
theorem mul_low (x y : Rat) : Rat.divInt (x.num * y.num) (x.den * y.den) = x * y := by
  have := Rat.divInt_mul_divInt x.num y.num (d₁ := x.den) (d₂ := y.den)
  rw [Rat.num_divInt_den, Rat.num_divInt_den] at this
  exact this.symm
theorem Rat.den_neg' (x : Rat) : (-x).den = x.den := by rfl
theorem Rat.num_neg' (x : Rat) : (-x).num = -x.num := by rfl
theorem sub_low (x y : Rat) : Rat.divInt (x.num * y.den - y.num * x.den) (x.den * y.den) = x - y := by
  have h := add_low x (-y)
  rw [Rat.den_neg', Rat.num_neg', Int.neg_mul, ← Int.sub_eq_add_neg] at h
  rw [h, Rat.sub_eq_add_neg]
theorem dens (x y : Rat) : (0 : Int) < (x.den : Int) * (y.den : Int) := Int.mul_pos (den_pos x) (den_pos y)
theorem Bd.add {n m k : Nat} {x y : Rat} (hx : Bd n x) (hy : Bd m y) (h : n + m + 1 ≤ k) : Bd k (x + y) := by
  rw [← add_low]
  refine Bd.low (dens x y) (bits_up (bits_add (n := n + m) (bits_mul hx.1 hy.den) ?_) h) (bits_up (bits_mul hx.den hy.den) (by omega))
  have := bits_mul hy.1 hx.den
  rwa [Nat.add_comm] at this
theorem Bd.sub {n m k : Nat} {x y : Rat} (hx : Bd n x) (hy : Bd m y) (h : n + m + 1 ≤ k) : Bd k (x - y) := by
  rw [← sub_low]
  refine Bd.low (dens x y) (bits_up (bits_sub (n := n + m) (bits_mul hx.1 hy.den) ?_) h) (bits_up (bits_mul hx.den hy.den) (by omega))
  have := bits_mul hy.1 hx.den
  rwa [Nat.add_comm] at this
theorem Bd.mul {n m k : Nat} {x y : Rat} (hx : Bd n x) (hy : Bd m y) (h : n + m ≤ k) : Bd k (x * y) := by
  rw [← mul_low]
  exact Bd.low (dens x y) (bits_up (bits_mul hx.1 hy.1) h) (bits_up (bits_mul hx.den hy.den) h)
theorem Bd.neg {n : Nat} {x : Rat} (hx : Bd n x) : Bd n (-x) := by
  refine ⟨?_, hx.2⟩
  rw [Rat.num_neg', Int.natAbs_neg]
  exact hx.1
end Mp

set_option linter.all false
set_option maxRecDepth 100000
/-! loops in plain Lean -/
namespace Mp
/-- a comprehension whose turns change nothing but its own slots -/
theorem lcL_pure {vs : List Nat} {t : Tgt} {c : M Bool} {f : M D} {g : D → Option D} {e0 : List Sl} {ms : List (List D)} : ∀ {xs : List D}, (∀ x ∈ xs, ∃ e', lcT t c f x ⟨e0, ms⟩ = .ok (g x) ⟨e', ms⟩ ∧ wipeE e' vs = e0) → lcL vs t c f xs ⟨e0, ms⟩ = .ok (xs.filterMap g) ⟨e0, ms⟩
  | [], _ => rfl
  | x :: xs, h => by
    obtain ⟨e', h1, h2⟩ := h x List.mem_cons_self
    have ih := lcL_pure (xs := xs) fun y hy => h y (List.mem_cons_of_mem _ hy)
    unfold lcL
    rw [h1]
    simp only
    rw [h2, ih]
    cases hg : g x with
    | none => rw [List.filterMap_cons_none hg]; rfl
    | some y => rw [List.filterMap_cons_some hg]; rfl
theorem lcM_pure {vs : List Nat} {src : M (List D)} {t : Tgt} {c : M Bool} {f : M D} (g : D → Option D) {s s1 : S} {xs : List D} (hsrc : src s = .ok xs s1) (hl : xs.length ≤ 100000) (hv : ∀ v ∈ vs, v < s1.env.length)
    (h : ∀ x ∈ xs, ∃ e', lcT t c f x ⟨wipeE s1.env vs, s1.ms⟩ = .ok (g x) ⟨e', s1.ms⟩ ∧ wipeE e' vs = wipeE s1.env vs) : lcM vs src t c f s = .ok (xs.filterMap g) ⟨restE s1.env (wipeE s1.env vs) vs, s1.ms⟩ := by
  unfold lcM bnd
  rw [hsrc]
  simp only
  rw [if_pos ⟨hl, hv⟩, lcL_pure h]
theorem lcL_map {α : Type} (enc : α → D) {vs : List Nat} {t : Tgt} {c : M Bool} {f : M D} (g : α → Option D) {e0 : List Sl} {ms : List (List D)} : ∀ {l : List α}, (∀ x ∈ l, ∃ e', lcT t c f (enc x) ⟨e0, ms⟩ = .ok (g x) ⟨e', ms⟩ ∧ wipeE e' vs = e0) → lcL vs t c f (l.map enc) ⟨e0, ms⟩ = .ok (l.filterMap g) ⟨e0, ms⟩
  | [], _ => rfl
  | x :: xs, h => by
    obtain ⟨e', h1, h2⟩ := h x List.mem_cons_self
    have ih := lcL_map enc g (l := xs) fun y hy => h y (List.mem_cons_of_mem _ hy)
    rw [List.map_cons]
    unfold lcL
    rw [h1]
    simp only
    rw [h2, ih]
    cases hg : g x with
    | none => rw [List.filterMap_cons_none hg]; rfl
    | some y => rw [List.filterMap_cons_some hg]; rfl
theorem lcM_map {α : Type} (enc : α → D) (l : List α) {vs : List Nat} {src : M (List D)} {t : Tgt} {c : M Bool} {f : M D} (g : α → Option D) {s : S} (hsrc : src s = .ok (l.map enc) s) (hl : l.length ≤ 100000) (hv : ∀ v ∈ vs, v < s.env.length)
    (h : ∀ x ∈ l, ∃ e', lcT t c f (enc x) ⟨wipeE s.env vs, s.ms⟩ = .ok (g x) ⟨e', s.ms⟩ ∧ wipeE e' vs = wipeE s.env vs) : lcM vs src t c f s = .ok (l.filterMap g) ⟨restE s.env (wipeE s.env vs) vs, s.ms⟩ := by
  unfold lcM bnd
  rw [hsrc]
  simp only
  rw [if_pos ⟨by rw [List.length_map]; exact hl, hv⟩, lcL_map enc g h]
theorem filterMap_some_map {α β : Type} (f : α → β) (l : List α) : l.filterMap (fun x => some (f x)) = l.map f := by
  induction l with
  | nil => rfl
  | cons x l ih => simp [ih]
theorem forL_step {t : Tgt} {b : M Fl} {x : D} {xs : List D} {s s1 s2 : S} (h1 : t x s = .ok () s1) (h2 : b s1 = .ok .nx s2) : forL t b (x :: xs) s = forL t b xs s2 := by
  show bnd (t x) _ s = _
  unfold bnd
  rw [h1]
  simp only
  rw [h2]
/-- the pairs that enumerate gives -/
theorem enumL_eq (ds : List D) : enumL ds = (List.range ds.length).map fun i => .tup [.int (i : Nat), ds.getD i .non] := rfl
/-- .. with a state that keeps I -/
theorem lcL_inv {vs : List Nat} {t : Tgt} {c : M Bool} {f : M D} {e0 : List Sl} (I : List (List D) → Prop) (P : D → Prop) : ∀ {xs : List D} {ms : List (List D)}, I ms → (∀ x ∈ xs, ∀ ms, I ms → ∃ y e' ms', lcT t c f x ⟨e0, ms⟩ = .ok (some y) ⟨e', ms'⟩ ∧ wipeE e' vs = e0 ∧ I ms' ∧ P y) →
    ∃ ys ms', lcL vs t c f xs ⟨e0, ms⟩ = .ok ys ⟨e0, ms'⟩ ∧ I ms' ∧ ys.length = xs.length ∧ ∀ y ∈ ys, P y
  | [], ms, hi, _ => ⟨[], ms, rfl, hi, rfl, by simp⟩
  | x :: xs, ms, hi, h => by
    obtain ⟨y, e', ms1, h1, h2, h3, h4⟩ := h x List.mem_cons_self ms hi
    obtain ⟨ys, ms2, k1, k2, k3, k4⟩ := lcL_inv I P (xs := xs) h3 fun z hz => h z (List.mem_cons_of_mem _ hz)
    refine ⟨y :: ys, ms2, ?_, k2, by simp [k3], fun z hz => ?_⟩
    · unfold lcL
      rw [h1]
      simp only
      rw [h2, k1]
      rfl
    · rcases List.mem_cons.mp hz with e | e
      · rw [e]; exact h4
      · exact k4 z e
theorem lcM_inv {vs : List Nat} {src : M (List D)} {t : Tgt} {c : M Bool} {f : M D} (I : List (List D) → Prop) (P : D → Prop) {s s1 : S} {xs : List D} (hsrc : src s = .ok xs s1) (hl : xs.length ≤ 100000) (hv : ∀ v ∈ vs, v < s1.env.length) (hi : I s1.ms)
    (h : ∀ x ∈ xs, ∀ ms, I ms → ∃ y e' ms', lcT t c f x ⟨wipeE s1.env vs, ms⟩ = .ok (some y) ⟨e', ms'⟩ ∧ wipeE e' vs = wipeE s1.env vs ∧ I ms' ∧ P y) :
    ∃ ys ms', lcM vs src t c f s = .ok ys ⟨restE s1.env (wipeE s1.env vs) vs, ms'⟩ ∧ I ms' ∧ ys.length = xs.length ∧ ∀ y ∈ ys, P y := by
  obtain ⟨ys, ms', k1, k2, k3, k4⟩ := lcL_inv I P hi h
  refine ⟨ys, ms', ?_, k2, k3, k4⟩
  unfold lcM bnd
  rw [hsrc]
  simp only
  rw [if_pos ⟨hl, hv⟩, k1]
/-- a loop, by an invariant of the state -/
theorem forL_inv {t : Tgt} {b : M Fl} (I : List D → S → Prop) : ∀ {xs : List D} {s : S}, I xs s → (∀ x xs s, I (x :: xs) s → ∃ s1 s2, t x s = .ok () s1 ∧ b s1 = .ok .nx s2 ∧ I xs s2) → ∃ s', forL t b xs s = .ok .nx s' ∧ I [] s'
  | [], s, h, _ => ⟨s, rfl, h⟩
  | x :: xs, s, h, hs => by
    obtain ⟨s1, s2, h1, h2, h3⟩ := hs x xs s h
    obtain ⟨s', k1, k2⟩ := forL_inv I h3 hs
    refine ⟨s', ?_, k2⟩
    unfold forL bnd
    rw [h1]
    simp only
    rw [h2]
    exact k1
/-- .. that may end it with a return -/
theorem forL_ret {t : Tgt} {b : M Fl} (I : List D → S → Prop) (R : D → S → Prop) : ∀ {xs : List D} {s : S}, I xs s → (∀ x xs s, I (x :: xs) s → ∃ s1 s2 fl, t x s = .ok () s1 ∧ b s1 = .ok fl s2 ∧ ((fl = .nx ∧ I xs s2) ∨ (∃ d, fl = .ret d ∧ R d s2))) → ∃ s' fl, forL t b xs s = .ok fl s' ∧ ((fl = .nx ∧ I [] s') ∨ ∃ d, fl = .ret d ∧ R d s')
  | [], s, h, _ => ⟨s, .nx, rfl, .inl ⟨rfl, h⟩⟩
  | x :: xs, s, h, hs => by
    obtain ⟨s1, s2, fl, h1, h2, h3⟩ := hs x xs s h
    rcases h3 with ⟨rfl, h3⟩ | ⟨d, rfl, h3⟩
    · obtain ⟨s', fl, k1, k2⟩ := forL_ret I R h3 hs
      refine ⟨s', fl, ?_, k2⟩
      unfold forL bnd
      rw [h1]
      simp only
      rw [h2]
      exact k1
    · refine ⟨s2, .ret d, ?_, .inr ⟨d, rfl, h3⟩⟩
      unfold forL bnd
      rw [h1]
      simp only
      rw [h2]
      rfl
end Mp

set_option linter.all false
/-! turns of places, chains: plain Lean -/
namespace Hul
abbrev Pt := Int × Int
def turn (o a b : Pt) : Int := (a.1 - o.1) * (b.2 - o.2) - (a.2 - o.2) * (b.1 - o.1)
/-- x first, then y -/
def lt (p q : Pt) : Prop := p.1 < q.1 ∨ (p.1 = q.1 ∧ p.2 < q.2)
theorem lt_trans {p q r : Pt} (a : lt p q) (b : lt q r) : lt p r := by unfold lt at *; omega
theorem lt_irrefl {p : Pt} (a : lt p p) : False := by unfold lt at *; omega
theorem lt_tri (p q : Pt) : lt p q ∨ p = q ∨ lt q p := by
  unfold lt
  by_cases h : p.1 = q.1 ∧ p.2 = q.2
  · exact .inr (.inl (Prod.ext h.1 h.2))
  · omega
theorem turn_cyc (a b c : Pt) : turn a b c = turn b c a := by unfold turn; grind
theorem turn_cyc2 (a b c : Pt) : turn a b c = turn c a b := by unfold turn; grind
theorem turn_swap (a b c : Pt) : turn a b c = -turn b a c := by unfold turn; grind
theorem turn_swap2 (a b c : Pt) : turn a b c = -turn a c b := by unfold turn; grind
theorem turn_self (a b : Pt) : turn a b b = 0 := by unfold turn; grind
theorem turn_self2 (a b : Pt) : turn a b a = 0 := by unfold turn; grind
/-- vectors -/
def cr (u v : Pt) : Int := u.1 * v.2 - u.2 * v.1
/-- to the right, or straight up -/
def Po (u : Pt) : Prop := 0 < u.1 ∨ (u.1 = 0 ∧ 0 < u.2)
def sb (p q : Pt) : Pt := (p.1 - q.1, p.2 - q.2)
theorem po_of {p q : Pt} (h : lt p q) : Po (sb q p) := by unfold lt Po sb at *; simp only; omega
theorem turn_cr (o a b : Pt) : turn o a b = cr (sb a o) (sb b o) := by unfold turn cr sb; grind
theorem turn_cr2 (a b c : Pt) : turn a b c = cr (sb b a) (sb c b) := by unfold turn cr sb; grind
theorem cr_anti (u v : Pt) : cr u v = -cr v u := by unfold cr; grind
theorem cr_id (u v w : Pt) : cr v w * u.1 = cr v u * w.1 + cr u w * v.1 := by unfold cr; grind
theorem pos_mul {a b : Int} (ha : 0 < a) (h : 0 < b * a) : 0 < b := by
  rcases Int.lt_or_le 0 b with h1 | h1
  · exact h1
  · have := Int.mul_nonneg (show 0 ≤ -b by omega) (Int.le_of_lt ha)
    rw [Int.neg_mul] at this
    omega
theorem nn_mul {a b : Int} (ha : 0 < a) (h : 0 ≤ b * a) : 0 ≤ b := by
  rcases Int.lt_or_le b 0 with h1 | h1
  · have := Int.mul_pos (show 0 < -b by omega) ha
    rw [Int.neg_mul] at this
    omega
  · exact h1
/-- slopes: v at most u, u less than w -/
theorem slope_lt {u v w : Pt} (hu : Po u) (hv : Po v) (hw : Po w) (h1 : 0 ≤ cr v u) (h2 : 0 < cr u w) : 0 < cr v w := by
  have id := cr_id u v w
  rcases hu with hu | ⟨u1, u2⟩
  · have a : 0 ≤ cr v u * w.1 := Int.mul_nonneg h1 (by unfold Po at hw; omega)
    rcases hv with hv | ⟨v1, v2⟩
    · have b := Int.mul_pos h2 hv
      exact pos_mul hu (by omega)
    · -- v straight up: u is no less, so is w
      exfalso
      unfold cr at h1
      rw [v1] at h1
      have := Int.mul_pos v2 hu
      omega
  · exfalso
    unfold cr at h2
    rw [u1] at h2
    have : 0 ≤ u.2 * w.1 := Int.mul_nonneg (by omega) (by unfold Po at hw; omega)
    omega
theorem slope_lt2 {u v w : Pt} (hu : Po u) (hv : Po v) (hw : Po w) (h1 : 0 < cr v u) (h2 : 0 ≤ cr u w) : 0 < cr v w := by
  have id := cr_id u v w
  rcases hu with hu | ⟨u1, u2⟩
  · have b : 0 ≤ cr u w * v.1 := Int.mul_nonneg h2 (by unfold Po at hv; omega)
    rcases hw with hw | ⟨w1, w2⟩
    · have a := Int.mul_pos h1 hw
      exact pos_mul hu (by omega)
    · unfold cr
      rw [w1]
      rcases hv with hv | ⟨v1, v2⟩
      · have := Int.mul_pos hv w2
        omega
      · exfalso
        unfold cr at h1
        rw [v1] at h1
        have := Int.mul_pos v2 hu
        omega
  · unfold cr at h2
    rw [u1] at h2
    have hw1 : w.1 = 0 := by
      rcases hw with hw | hw
      · have := Int.mul_pos u2 hw
        omega
      · exact hw.1
    have w2 : 0 < w.2 := by unfold Po at hw; omega
    unfold cr
    rw [hw1]
    rcases hv with hv | ⟨v1, v2⟩
    · have := Int.mul_pos hv w2
      omega
    · exfalso
      unfold cr at h1
      rw [v1, u1] at h1
      omega
/-- slopes: w at most u, u at most v -/
theorem slope_le {u v w : Pt} (hu : Po u) (hv : Po v) (hw : Po w) (h1 : 0 ≤ cr w u) (h2 : 0 ≤ cr u v) : 0 ≤ cr w v := by
  rcases Int.lt_or_le 0 (cr w u) with a | a
  · exact Int.le_of_lt (slope_lt2 hu hw hv a h2)
  · rcases Int.lt_or_le 0 (cr u v) with b | b
    · exact Int.le_of_lt (slope_lt hu hw hv h1 b)
    · have e1 : cr w u = 0 := by omega
      have e2 : cr u v = 0 := by omega
      have id := cr_id u w v
      rw [e1, e2] at id
      rcases hu with hu | ⟨u1, u2⟩
      · exact nn_mul hu (by omega)
      · unfold cr at e1 e2
        rw [u1] at e1 e2
        have z1 : w.1 * u.2 = 0 := by omega
        have z2 : u.2 * v.1 = 0 := by omega
        have w1 : w.1 = 0 := by
          rcases Int.mul_eq_zero.mp z1 with h | h
          · exact h
          · omega
        have v1 : v.1 = 0 := by
          rcases Int.mul_eq_zero.mp z2 with h | h
          · omega
          · exact h
        unfold cr
        rw [w1, v1]
        omega
/-! ### four places in a row -/
theorem T1 {a b c d : Pt} (h1 : lt a b) (h2 : lt b c) (h3 : lt c d) (t1 : 0 < turn a b c) (t2 : 0 < turn b c d) : 0 < turn a b d := by
  have hp := po_of (lt_trans h2 h3)
  rw [turn_cr2] at t1 t2 ⊢
  -- slope ab < slope bc < slope cd; bd lies between
  have e : cr (sb b a) (sb d b) = cr (sb b a) (sb c b) + cr (sb b a) (sb d c) := by unfold cr sb; grind
  have := slope_lt (po_of h2) (po_of h1) (po_of h3) (Int.le_of_lt t1) t2
  omega
theorem T2 {a b c d : Pt} (h1 : lt a b) (h2 : lt b c) (h3 : lt c d) (t1 : 0 < turn a b c) (t2 : 0 < turn b c d) : 0 < turn a c d := by
  rw [turn_cr2] at t1 t2 ⊢
  have e : cr (sb c a) (sb d c) = cr (sb b a) (sb d c) + cr (sb c b) (sb d c) := by unfold cr sb; grind
  have := slope_lt (po_of h2) (po_of h1) (po_of h3) (Int.le_of_lt t1) t2
  omega
/-- a place ahead of a, left of (b, a); p behind, a turn to the left: then it lies left of (a, p), too -/
theorem U1 {b a p q : Pt} (h1 : lt b a) (h2 : lt q a) (h3 : lt a p) (t1 : 0 ≤ turn b a q) (t2 : 0 < turn b a p) : 0 ≤ turn a p q := by
  rw [turn_cyc2 a p q]
  rw [turn_cr2] at t2 ⊢
  have t1' : 0 ≤ cr (sb a q) (sb a b) := by
    have e : cr (sb a q) (sb a b) = turn b a q := by unfold turn cr sb; grind
    omega
  exact Int.le_of_lt (slope_lt (po_of h1) (po_of h2) (po_of h3) t1' t2)
/-- a place behind b, left of (b, a); p behind a, no turn to the left -/
theorem U2 {b a p q : Pt} (h1 : lt b a) (h2 : lt b q) (h3 : lt a p) (t1 : 0 ≤ turn b a q) (t2 : turn b a p ≤ 0) : 0 ≤ turn b p q := by
  rw [turn_cr] at t1 t2 ⊢
  have t2' : 0 ≤ cr (sb p b) (sb a b) := by rw [cr_anti]; omega
  exact slope_le (po_of h1) (po_of h2) (po_of (lt_trans h1 h3)) t2' t1
end Hul

set_option linter.all false
namespace Hul
/-! ### the chain, top first -/
def popTo (p : Pt) : List Pt → List Pt
  | a :: b :: r => if turn b a p ≤ 0 then popTo p (b :: r) else a :: b :: r
  | l => l
def push (p : Pt) (st : List Pt) : List Pt := p :: popTo p st
def chainS : List Pt → List Pt → List Pt
  | st, [] => st
  | st, p :: ps => chainS (push p st) ps
def Tri : List Pt → Prop
  | [] => True
  | a :: r => r.Pairwise (fun y x => 0 < turn x y a) ∧ Tri r
def Edg (Q : List Pt) : List Pt → Prop
  | a :: b :: r => (∀ q ∈ Q, 0 ≤ turn b a q) ∧ Edg Q (b :: r)
  | _ => True
structure Ch (Q st : List Pt) : Prop where
  so : st.Pairwise (fun a b => lt b a)
  tr : Tri st
  ed : Edg Q st
  su : ∀ x ∈ st, x ∈ Q
  ne : st ≠ []
  bo : ∀ m, st.getLast? = some m → ∀ q ∈ Q, q = m ∨ lt m q
def Top (Q : List Pt) (p : Pt) : List Pt → Prop
  | a :: _ => ∀ q ∈ Q, lt a q → 0 ≤ turn a p q
  | [] => True
def Ext (p : Pt) : List Pt → Prop
  | a :: b :: _ => 0 < turn b a p
  | _ => True
theorem popTo_ok {Q : List Pt} {p : Pt} (hp : ∀ q ∈ Q, lt q p) : ∀ {st : List Pt}, Ch Q st → Top Q p st → Ch Q (popTo p st) ∧ Top Q p (popTo p st) ∧ Ext p (popTo p st)
  | [], c, t => absurd rfl c.ne
  | [a], c, t => ⟨c, t, trivial⟩
  | a :: b :: r, c, t => by
    unfold popTo
    split
    · rename_i h
      have hab : lt b a := (List.pairwise_cons.mp c.so).1 b List.mem_cons_self
      refine popTo_ok hp ⟨(List.pairwise_cons.mp c.so).2, c.tr.2, c.ed.2, fun x hx => c.su x (List.mem_cons_of_mem _ hx), by simp, fun m hm => c.bo m (by rw [List.getLast?_cons_cons]; exact hm)⟩ fun q hq hl => ?_
      exact U2 hab hl (hp a (c.su a List.mem_cons_self)) (c.ed.1 q hq) h
    · rename_i h
      exact ⟨c, t, show 0 < turn b a p by omega⟩
theorem edg_more {Q : List Pt} {p : Pt} : ∀ {st : List Pt}, Edg Q st → st.Pairwise (fun y x => 0 < turn x y p) → Edg (p :: Q) st
  | [], _, _ => trivial
  | [a], _, _ => trivial
  | a :: b :: r, e, h => by
    obtain ⟨h1, h2⟩ := List.pairwise_cons.mp h
    refine ⟨fun q hq => ?_, edg_more e.2 h2⟩
    rcases List.mem_cons.mp hq with rfl | hq
    · exact Int.le_of_lt (h1 b List.mem_cons_self)
    · exact e.1 q hq
theorem push_ok {Q : List Pt} {p : Pt} {st : List Pt} (hp : ∀ q ∈ Q, lt q p) (c : Ch Q st) (t : Top Q p st) : Ch (p :: Q) (push p st) ∧ ∀ a, (push p st).head? = some a → a = p := by
  obtain ⟨c, t, e⟩ := popTo_ok hp c t
  unfold push
  generalize popTo p st = st at *
  refine ⟨?_, fun a ha => by simpa using ha.symm⟩
  cases st with
  | nil => exact absurd rfl c.ne
  | cons a r =>
    obtain ⟨s1, s2⟩ := List.pairwise_cons.mp c.so
    obtain ⟨t1, t2⟩ := c.tr
    have ap : lt a p := hp a (c.su a List.mem_cons_self)
    have k1 : ∀ x ∈ r, 0 < turn x a p := by
      cases r with
      | nil => intro x hx; cases hx
      | cons b r =>
        intro x hx
        rcases List.mem_cons.mp hx with rfl | hx
        · exact e
        · exact T2 ((List.pairwise_cons.mp s2).1 x hx) (s1 b List.mem_cons_self) ap ((List.pairwise_cons.mp t1).1 x hx) e
    have k2 : r.Pairwise (fun y x => 0 < turn x y p) := by
      have both := List.Pairwise.and s2 t1
      refine List.Pairwise.imp_of_mem (fun {y x} hy hx h => ?_) both
      exact T1 h.1 (s1 y hy) ap h.2 (k1 y hy)
    have pw : (a :: r).Pairwise (fun y x => 0 < turn x y p) := List.pairwise_cons.mpr ⟨k1, k2⟩
    refine ⟨List.pairwise_cons.mpr ⟨fun x hx => hp x (c.su x hx), c.so⟩, ⟨pw, c.tr⟩, ⟨fun q hq => ?_, edg_more c.ed pw⟩, fun x hx => ?_, by simp, fun m hm q hq => ?_⟩
    · rcases List.mem_cons.mp hq with rfl | hq
      · rw [turn_self]; exact Int.le_refl _
      · rcases lt_tri q a with h | h | h
        · cases r with
          | nil =>
            rcases c.bo a rfl q hq with h2 | h2
            · rw [h2] at h; exact (lt_irrefl h).elim
            · exact (lt_irrefl (lt_trans h h2)).elim
          | cons b r => exact U1 (s1 b List.mem_cons_self) h ap (c.ed.1 q hq) e
        · rw [h, turn_self2]; exact Int.le_refl _
        · exact t q hq h
    · rcases List.mem_cons.mp hx with rfl | hx
      · exact List.mem_cons_self
      · exact List.mem_cons_of_mem _ (c.su x hx)
    · have hm : (a :: r).getLast? = some m := by rw [← hm, List.getLast?_cons_cons]
      rcases List.mem_cons.mp hq with rfl | hq
      · exact .inr (hp m (c.su m (List.mem_of_getLast? hm)))
      · exact c.bo m hm q hq
/-- the whole chain -/
theorem chainS_ok : ∀ {ps st Q : List Pt} {a : Pt}, Ch Q st → st.head? = some a → (∀ q ∈ Q, q = a ∨ lt q a) → (a :: ps).Pairwise lt → Ch (ps.reverse ++ Q) (chainS st ps) ∧ ∃ b, (chainS st ps).head? = some b ∧ (a :: ps).getLast? = some b
  | [], st, Q, a, c, h, _, _ => ⟨c, a, h, rfl⟩
  | p :: ps, st, Q, a, c, h, hm, so => by
    obtain ⟨s1, s2⟩ := List.pairwise_cons.mp so
    have ap := s1 p List.mem_cons_self
    have hp : ∀ q ∈ Q, lt q p := fun q hq => by
      rcases hm q hq with rfl | h
      · exact ap
      · exact lt_trans h ap
    have tp : Top Q p st := by
      cases st with
      | nil => trivial
      | cons b r =>
        have e : b = a := by simpa using h
        subst e
        intro q hq hl
        rcases hm q hq with rfl | h
        · exact (lt_irrefl hl).elim
        · exact (lt_irrefl (lt_trans h hl)).elim
    obtain ⟨c2, h2⟩ := push_ok hp c tp
    have hh : (push p st).head? = some p := rfl
    obtain ⟨c3, b, k1, k2⟩ := chainS_ok (ps := ps) c2 hh (fun q hq => by
      rcases List.mem_cons.mp hq with rfl | hq
      · exact .inl rfl
      · exact .inr (hp q hq)) s2
    refine ⟨?_, b, k1, by rw [List.getLast?_cons_cons]; exact k2⟩
    rw [List.reverse_cons, List.append_assoc]
    exact c3
/-- of a rising list -/
theorem chain_rise {a : Pt} {ps : List Pt} (so : (a :: ps).Pairwise lt) : Ch (ps.reverse ++ [a]) (chainS [] (a :: ps)) ∧ (∃ b, (chainS [] (a :: ps)).head? = some b ∧ (a :: ps).getLast? = some b) ∧ (chainS [] (a :: ps)).getLast? = some a := by
  have c0 : Ch [a] [a] := ⟨List.pairwise_singleton _ _, ⟨List.Pairwise.nil, trivial⟩, trivial, fun x h => h, by simp, fun m hm q hq => .inl (by
    have e1 : a = m := by simpa using hm
    have e2 : q = a := by simpa using hq
    rw [e2, e1])⟩
  obtain ⟨c, b, h1, h2⟩ := chainS_ok (ps := ps) c0 rfl (fun q hq => .inl (by simpa using hq)) so
  have e : chainS [] (a :: ps) = chainS [a] ps := rfl
  rw [e]
  refine ⟨c, ⟨b, h1, h2⟩, ?_⟩
  cases z : (chainS [a] ps).getLast? with
  | none => exact absurd (List.getLast?_eq_none_iff.mp z) c.ne
  | some m =>
    have hm : m ∈ ps.reverse ++ [a] := c.su m (List.mem_of_getLast? z)
    have ha := c.bo m z a (by simp)
    rcases ha with rfl | ha
    · rfl
    · rcases List.mem_append.mp hm with h | h
      · exact (lt_irrefl (lt_trans ha ((List.pairwise_cons.mp so).1 m (List.mem_reverse.mp h)))).elim
      · have e2 : m = a := by simpa using h
        rw [e2] at ha
        exact (lt_irrefl ha).elim
end Hul

set_option linter.all false
namespace Hul
/-! ### turned about -/
def ng (p : Pt) : Pt := (-p.1, -p.2)
theorem ng_ng (p : Pt) : ng (ng p) = p := by unfold ng; simp
theorem turn_ng (a b c : Pt) : turn (ng a) (ng b) (ng c) = turn a b c := by unfold turn ng; grind
theorem lt_ng {p q : Pt} : lt (ng p) (ng q) ↔ lt q p := by unfold lt ng; simp only; omega
theorem popTo_ng (p : Pt) : ∀ st : List Pt, popTo (ng p) (st.map ng) = (popTo p st).map ng
  | [] => rfl
  | [a] => rfl
  | a :: b :: r => by
    show popTo (ng p) (ng a :: ng b :: r.map ng) = _
    unfold popTo
    rw [turn_ng]
    split
    · exact popTo_ng p (b :: r)
    · rfl
theorem chainS_ng : ∀ (ps st : List Pt), chainS (st.map ng) (ps.map ng) = (chainS st ps).map ng
  | [], _ => rfl
  | p :: ps, st => by
    show chainS (push (ng p) (st.map ng)) (ps.map ng) = _
    unfold push
    rw [popTo_ng]
    exact chainS_ng ps (p :: popTo p st)
theorem map_ng_ng (l : List Pt) : (l.map ng).map ng = l := by
  rw [List.map_map]
  conv => rhs; rw [← List.map_id l]
  exact List.map_congr_left fun x _ => ng_ng x
/-! ### pairs in a row -/
def prs : List Pt → List (Pt × Pt)
  | x :: y :: r => (x, y) :: prs (y :: r)
  | _ => []
theorem prs_zip : ∀ l : List Pt, prs l = l.zip l.tail
  | [] => rfl
  | [_] => rfl
  | x :: y :: r => by
    show (x, y) :: prs (y :: r) = (x, y) :: (y :: r).zip r
    rw [prs_zip (y :: r)]
    rfl
theorem prs_snoc : ∀ (l : List Pt) (b a : Pt), prs (l ++ [b, a]) = prs (l ++ [b]) ++ [(b, a)]
  | [], b, a => rfl
  | [x], b, a => rfl
  | x :: y :: l, b, a => by
    show (x, y) :: prs (y :: l ++ [b, a]) = (x, y) :: prs (y :: l ++ [b]) ++ [(b, a)]
    rw [prs_snoc (y :: l) b a]
    rfl
theorem prs_mem : ∀ {l : List Pt} {x y : Pt}, (x, y) ∈ prs l → x ∈ l ∧ y ∈ l
  | x :: y :: r, u, v, h => by
    rcases List.mem_cons.mp h with h | h
    · cases h
      exact ⟨List.mem_cons_self, List.mem_cons_of_mem _ List.mem_cons_self⟩
    · obtain ⟨a, b⟩ := prs_mem h
      exact ⟨List.mem_cons_of_mem _ a, List.mem_cons_of_mem _ b⟩
  | [_], _, _, h => by cases h
  | [], _, _, h => by cases h
/-! ### what a chain gives, bottom first -/
theorem pw_two {R : Pt → Pt → Prop} : ∀ {l : List Pt} {x y : Pt}, l.Pairwise R → x ∈ l → y ∈ l → x = y ∨ R x y ∨ R y x
  | a :: l, x, y, h, hx, hy => by
    obtain ⟨h1, h2⟩ := List.pairwise_cons.mp h
    rcases List.mem_cons.mp hx with ex | kx
    · rcases List.mem_cons.mp hy with ey | ky
      · exact .inl (ex.trans ey.symm)
      · exact .inr (.inl (ex ▸ h1 y ky))
    · rcases List.mem_cons.mp hy with ey | ky
      · exact .inr (.inr (ey ▸ h1 x kx))
      · exact pw_two h2 kx ky
theorem tri_of : ∀ {st : List Pt}, Tri st → st.Pairwise (fun a b => lt b a) → ∀ x ∈ st, ∀ y ∈ st, ∀ z ∈ st, lt x y → lt y z → 0 < turn x y z
  | a :: r, t, s, x, hx, y, hy, z, hz, h1, h2 => by
    obtain ⟨s1, s2⟩ := List.pairwise_cons.mp s
    have top : ∀ w ∈ a :: r, w = a ∨ lt w a := fun w hw => (List.mem_cons.mp hw).imp id fun h => s1 w h
    have inr : ∀ w ∈ a :: r, lt w a → w ∈ r := fun w hw h => by
      rcases List.mem_cons.mp hw with rfl | hw
      · exact (lt_irrefl h).elim
      · exact hw
    have zy : lt y a := by
      rcases top z hz with rfl | h
      · exact h2
      · exact lt_trans h2 h
    have hy' := inr y hy zy
    have hx' := inr x hx (lt_trans h1 zy)
    rcases top z hz with rfl | h
    · have both := List.Pairwise.and s2 t.1
      rcases pw_two both hx' hy' with rfl | h | h
      · exact (lt_irrefl h1).elim
      · exact (lt_irrefl (lt_trans h1 h.1)).elim
      · exact h.2
    · exact tri_of t.2 s2 x hx' y hy' z (inr z hz h) h1 h2
theorem edg_of {Q : List Pt} : ∀ {st : List Pt}, Edg Q st → st.Pairwise (fun a b => lt b a) → ∀ e ∈ prs st.reverse, lt e.1 e.2 ∧ ∀ q ∈ Q, 0 ≤ turn e.1 e.2 q
  | [], _, _, e, he => by cases he
  | [a], _, _, e, he => by cases he
  | a :: b :: r, d, s, e, he => by
    obtain ⟨s1, s2⟩ := List.pairwise_cons.mp s
    have er : (a :: b :: r).reverse = r.reverse ++ [b, a] := by simp
    rw [er, prs_snoc] at he
    rcases List.mem_append.mp he with h | h
    · exact edg_of d.2 s2 e (by rw [List.reverse_cons]; exact h)
    · have e2 : e = (b, a) := by simpa using h
      subst e2
      exact ⟨s1 b List.mem_cons_self, d.1⟩
structure Side (L : Pt → Pt → Prop) (Q C : List Pt) (m M : Pt) : Prop where
  so : C.Pairwise L
  tri : ∀ x ∈ C, ∀ y ∈ C, ∀ z ∈ C, L x y → L y z → 0 < turn x y z
  ed : ∀ e ∈ prs C, L e.1 e.2 ∧ ∀ q ∈ Q, 0 ≤ turn e.1 e.2 q
  su : ∀ x ∈ C, x ∈ Q
  hd : C.head? = some m
  la : C.getLast? = some M
  lo : ∀ q ∈ Q, q = m ∨ L m q
  hi : ∀ q ∈ Q, q = M ∨ L q M
theorem last_hi {ps : List Pt} (so : ps.Pairwise lt) {b : Pt} (h : ps.getLast? = some b) : ∀ q ∈ ps, q = b ∨ lt q b := fun q hq => by
  rcases pw_two so hq (List.mem_of_getLast? h) with e | e | e
  · exact .inl e
  · exact .inr e
  · obtain ⟨l, hl⟩ : ∃ l, ps = l ++ [b] := ⟨ps.dropLast, by
      have hne : ps ≠ [] := by intro z; rw [z] at h; cases h
      have := List.dropLast_concat_getLast hne
      rw [List.getLast?_eq_some_getLast hne] at h
      rw [← Option.some.inj h]
      exact this.symm⟩
    rw [hl] at so hq
    rcases List.mem_append.mp hq with z | z
    · exact .inr ((List.pairwise_append.mp so).2.2 q z b (by simp))
    · exact .inl (by simpa using z)
theorem side_up {a : Pt} {ps : List Pt} (so : (a :: ps).Pairwise lt) : ∃ M, Side lt (a :: ps) (chainS [] (a :: ps)).reverse a M ∧ (a :: ps).getLast? = some M := by
  obtain ⟨c, ⟨b, h1, h2⟩, h3⟩ := chain_rise so
  have memQ : ∀ q, q ∈ ps.reverse ++ [a] ↔ q ∈ a :: ps := fun q => by simp [or_comm]
  refine ⟨b, ⟨List.pairwise_reverse.mpr c.so, fun x hx y hy z hz => tri_of c.tr c.so x (List.mem_reverse.mp hx) y (List.mem_reverse.mp hy) z (List.mem_reverse.mp hz), fun e he => ?_, fun x hx => (memQ x).mp (c.su x (List.mem_reverse.mp hx)), by rw [List.head?_reverse]; exact h3, by rw [List.getLast?_reverse]; exact h1, fun q hq => ?_, last_hi so h2⟩, h2⟩
  · obtain ⟨z1, z2⟩ := edg_of c.ed c.so e he
    exact ⟨z1, fun q hq => z2 q ((memQ q).mpr hq)⟩
  · rcases List.mem_cons.mp hq with e | h
    · exact .inl e
    · exact .inr ((List.pairwise_cons.mp so).1 q h)
theorem prs_map : ∀ l : List Pt, prs (l.map ng) = (prs l).map fun e => (ng e.1, ng e.2)
  | [] => rfl
  | [_] => rfl
  | x :: y :: r => by
    show (ng x, ng y) :: prs (ng y :: r.map ng) = (ng x, ng y) :: (prs (y :: r)).map _
    rw [← prs_map (y :: r)]
    rfl
theorem side_ng {Q C : List Pt} {m M : Pt} (s : Side lt (Q.map ng) (C.map ng) (ng m) (ng M)) : Side (fun a b => lt b a) Q C m M := by
  have inj : ∀ {x y : Pt}, ng x = ng y → x = y := fun {x y} h => by rw [← ng_ng x, h, ng_ng]
  refine ⟨?_, fun x hx y hy z hz h1 h2 => ?_, fun e he => ?_, fun x hx => ?_, ?_, ?_, fun q hq => ?_, fun q hq => ?_⟩
  · have := List.pairwise_map.mp s.so
    exact this.imp fun h => lt_ng.mp h
  · have := s.tri _ (List.mem_map_of_mem hx) _ (List.mem_map_of_mem hy) _ (List.mem_map_of_mem hz) (lt_ng.mpr h1) (lt_ng.mpr h2)
    rwa [turn_ng] at this
  · obtain ⟨z1, z2⟩ := s.ed (ng e.1, ng e.2) (by rw [prs_map]; exact List.mem_map.mpr ⟨e, he, rfl⟩)
    refine ⟨lt_ng.mp z1, fun q hq => ?_⟩
    have := z2 (ng q) (List.mem_map_of_mem hq)
    rwa [turn_ng] at this
  · obtain ⟨y, hy, e⟩ := List.mem_map.mp (s.su (ng x) (List.mem_map_of_mem hx))
    rw [← inj e]
    exact hy
  · have := s.hd
    rw [List.head?_map] at this
    cases z : C.head? with
    | none => rw [z] at this; cases this
    | some w => rw [z] at this; rw [inj (Option.some.inj this)]
  · have := s.la
    rw [List.getLast?_map] at this
    cases z : C.getLast? with
    | none => rw [z] at this; cases this
    | some w => rw [z] at this; rw [inj (Option.some.inj this)]
  · rcases s.lo (ng q) (List.mem_map_of_mem hq) with h | h
    · exact .inl (inj h)
    · exact .inr (lt_ng.mp h)
  · rcases s.hi (ng q) (List.mem_map_of_mem hq) with h | h
    · exact .inl (inj h)
    · exact .inr (lt_ng.mp h)
/-- of a falling list -/
theorem side_down {a : Pt} {ps : List Pt} (so : (a :: ps).Pairwise (fun x y => lt y x)) : ∃ m, Side (fun x y => lt y x) (a :: ps) (chainS [] (a :: ps)).reverse a m ∧ (a :: ps).getLast? = some m := by
  have so2 : (ng a :: ps.map ng).Pairwise lt := by
    have : ((a :: ps).map ng).Pairwise lt := List.pairwise_map.mpr (so.imp fun h => lt_ng.mpr h)
    exact this
  obtain ⟨M, s, hM⟩ := side_up so2
  have e1 : chainS [] (ng a :: ps.map ng) = (chainS [] (a :: ps)).map ng := chainS_ng (a :: ps) []
  have e2 : ng a :: ps.map ng = (a :: ps).map ng := rfl
  refine ⟨ng M, side_ng ?_, ?_⟩
  · rw [ng_ng, ← e2, List.map_reverse, ← e1]
    exact s
  · rw [e2, List.getLast?_map] at hM
    cases z : (a :: ps).getLast? with
    | none => rw [z] at hM; cases hM
    | some w =>
      rw [z] at hM
      rw [← Option.some.inj hM, ng_ng]
end Hul

set_option linter.all false
namespace Hul
/-! ### the ring -/
def rot (n : Nat) (l : List Pt) : List Pt := l.drop n ++ l.take n
def edges (l : List Pt) : List (Pt × Pt) := l.zip (rot 1 l)
def On (a b q : Pt) : Prop := turn a b q = 0 ∧ (min a.1 b.1 ≤ q.1 ∧ q.1 ≤ max a.1 b.1) ∧ min a.2 b.2 ≤ q.2 ∧ q.2 ≤ max a.2 b.2
/-- q is no corner -/
def Held (Q : List Pt) (q : Pt) : Prop := ∃ a ∈ Q, a ≠ q ∧ ∃ b ∈ Q, b ≠ q ∧ ((a ≠ b ∧ On a b q) ∨ ∃ c ∈ Q, c ≠ q ∧ 0 < turn a b c ∧ 0 ≤ turn a b q ∧ 0 ≤ turn b c q ∧ 0 ≤ turn c a q)
structure HullOk (Q R : List Pt) : Prop where
  e5 : ∀ x y z, (x, y) ∈ edges R → (y, z) ∈ edges R → 0 < turn x y z
  e6 : ∀ e ∈ edges R, ∀ q ∈ Q, 0 ≤ turn e.1 e.2 q
  nd : R.Nodup
  su : ∀ x ∈ R, x ∈ Q
  nh : ∀ v ∈ R, ¬ Held Q v
  he : ∀ q ∈ Q, q ∉ R → Held Q q
  hd : ∃ m, R.head? = some m ∧ ∀ q ∈ Q, q = m ∨ lt m q
  l3 : 3 ≤ R.length
theorem zip_trunc {α β : Type} : ∀ {a : List α} {b : List β} (c : List α), a.length = b.length → (a ++ c).zip b = a.zip b
  | [], [], c, _ => by cases c <;> rfl
  | x :: a, y :: b, c, h => by
    show (x, y) :: (a ++ c).zip b = (x, y) :: a.zip b
    rw [zip_trunc c (by simpa using h)]
/-- two sides, put together -/
theorem edges_two {C D : List Pt} {m M : Pt} (hC : C.head? = some m) (lC : C.getLast? = some M) (hD : D.head? = some M) (lD : D.getLast? = some m) (h1 : 2 ≤ C.length) (h2 : 2 ≤ D.length) : edges (C.dropLast ++ D.dropLast) = prs C ++ prs D := by
  have un : ∀ {L : List Pt} {a b : Pt}, L.head? = some a → L.getLast? = some b → 2 ≤ L.length → ∃ L', L = a :: (L' ++ [b]) ∧ L.dropLast = a :: L' := fun {L a b} h l n => by
    cases L with
    | nil => cases h
    | cons x L =>
      have e : x = a := by simpa using h
      subst e
      have hne : L ≠ [] := by intro z; subst z; simp at n
      obtain ⟨c, hc⟩ : ∃ c, L.getLast? = some c := ⟨_, List.getLast?_eq_some_getLast hne⟩
      have e2 : (x :: L).getLast? = L.getLast? := by
        cases L with
        | nil => exact absurd rfl hne
        | cons y L => rw [List.getLast?_cons_cons]
      rw [e2, List.getLast?_eq_some_getLast hne] at l
      refine ⟨L.dropLast, ?_, ?_⟩
      · rw [← Option.some.inj l, List.dropLast_concat_getLast hne]
      · cases L with
        | nil => exact absurd rfl hne
        | cons y L => rfl
  obtain ⟨C', e1, e2⟩ := un hC lC h1
  obtain ⟨D', e3, e4⟩ := un hD lD h2
  rw [e2, e4, prs_zip C, prs_zip D, e1, e3]
  have a1 : (m :: (C' ++ [M])).zip (m :: (C' ++ [M])).tail = (m :: C').zip (C' ++ [M]) := by
    have : m :: (C' ++ [M]) = (m :: C') ++ [M] := rfl
    rw [List.tail_cons, this]
    exact zip_trunc [M] (by simp)
  have a2 : (M :: (D' ++ [m])).zip (M :: (D' ++ [m])).tail = (M :: D').zip (D' ++ [m]) := by
    have : M :: (D' ++ [m]) = (M :: D') ++ [m] := rfl
    rw [List.tail_cons, this]
    exact zip_trunc [m] (by simp)
  rw [a1, a2]
  unfold edges rot
  have a3 : ((m :: C' ++ M :: D').drop 1 ++ (m :: C' ++ M :: D').take 1) = (C' ++ [M]) ++ (D' ++ [m]) := by simp
  rw [a3, List.zip_append (by simp)]
/-- only the place itself lies at nought of two edges that turn -/
theorem only_v {u v w q : Pt} (h : 0 < turn u v w) (f : turn u v q = 0) (g : turn v w q = 0) : q = v := by
  have e1 : turn u v w * (q.1 - v.1) = turn v w q * (u.1 - v.1) + turn u v q * (w.1 - v.1) := by unfold turn; grind
  have e2 : turn u v w * (q.2 - v.2) = turn v w q * (u.2 - v.2) + turn u v q * (w.2 - v.2) := by unfold turn; grind
  rw [f, g] at e1 e2
  simp only [Int.zero_mul, Int.add_zero] at e1 e2
  rcases Int.mul_eq_zero.mp e1 with z | z
  · omega
  · rcases Int.mul_eq_zero.mp e2 with y | y
    · omega
    · exact Prod.ext (by omega) (by omega)
/-- a bend of lines holds no corner -/
theorem not_held {Q : List Pt} {u v w : Pt} (h : 0 < turn u v w) (f : ∀ q ∈ Q, 0 ≤ turn u v q) (g : ∀ q ∈ Q, 0 ≤ turn v w q) : ¬ Held Q v := by
  rintro ⟨a, ha, na, b, hb, nb, ⟨nab, on, ⟨b1, b2⟩, b3, b4⟩ | ⟨c, hc, nc, t, t1, t2, t3⟩⟩
  · -- between two
    have lin : ∀ {x y : Pt}, (turn u v a = 0 → turn v w a = 0 → a = v) → True := fun _ => trivial
    have key : ∀ (F : Pt → Int) (α β : Int), (∀ q, F q = α * (q.2 - v.2) - β * (q.1 - v.1)) → 0 ≤ F a → 0 ≤ F b → F a = 0 ∧ F b = 0 := by
      intro F α β hF fa fb
      have c0 : (a.1 - v.1) * (b.2 - v.2) = (a.2 - v.2) * (b.1 - v.1) := by
        have : turn a b v = (a.1 - v.1) * (b.2 - v.2) - (a.2 - v.2) * (b.1 - v.1) := by unfold turn; grind
        omega
      have i1 : F a * (b.1 - v.1) = (a.1 - v.1) * F b := by rw [hF, hF]; grind
      have i2 : F a * (b.2 - v.2) = (a.2 - v.2) * F b := by rw [hF, hF]; grind
      have sg : ∀ (p r : Int), (min p r ≤ 0 ∧ 0 ≤ max p r) → F a * r = p * F b → (p ≠ 0 → F b = 0) ∧ (r ≠ 0 → F a = 0) := by
        intro p r hs hi
        refine ⟨fun hp => ?_, fun hr => ?_⟩
        · rcases Int.lt_or_le 0 p with h1 | h1
          · have h2 : r ≤ 0 := by omega
            have h3 : 0 ≤ F a * (-r) := Int.mul_nonneg fa (by omega)
            rw [Int.mul_neg] at h3
            have h4 : 0 ≤ p * F b := Int.mul_nonneg (by omega) fb
            rcases Int.mul_eq_zero.mp (show p * F b = 0 by omega) with z | z <;> omega
          · have h2 : 0 ≤ r := by omega
            have h3 : 0 ≤ F a * r := Int.mul_nonneg fa h2
            have h4 : 0 ≤ (-p) * F b := Int.mul_nonneg (by omega) fb
            rw [Int.neg_mul] at h4
            rcases Int.mul_eq_zero.mp (show p * F b = 0 by omega) with z | z <;> omega
        · rcases Int.lt_or_le 0 r with h1 | h1
          · have h2 : p ≤ 0 := by omega
            have h3 : 0 ≤ F a * r := Int.mul_nonneg fa (by omega)
            have h4 : 0 ≤ (-p) * F b := Int.mul_nonneg (by omega) fb
            rw [Int.neg_mul] at h4
            rcases Int.mul_eq_zero.mp (show F a * r = 0 by omega) with z | z <;> omega
          · have h2 : 0 ≤ p := by omega
            have h3 : 0 ≤ F a * (-r) := Int.mul_nonneg fa (by omega)
            rw [Int.mul_neg] at h3
            have h4 : 0 ≤ p * F b := Int.mul_nonneg h2 fb
            rcases Int.mul_eq_zero.mp (show F a * r = 0 by omega) with z | z <;> omega
      have s1 := sg (a.1 - v.1) (b.1 - v.1) (by omega) i1
      have s2 := sg (a.2 - v.2) (b.2 - v.2) (by omega) i2
      constructor
      · rcases Int.decEq (b.1 - v.1) 0 with z | z
        · exact s1.2 z
        · rcases Int.decEq (b.2 - v.2) 0 with y | y
          · exact s2.2 y
          · exact absurd (Prod.ext (by omega) (by omega)) nb
      · rcases Int.decEq (a.1 - v.1) 0 with z | z
        · exact s1.1 z
        · rcases Int.decEq (a.2 - v.2) 0 with y | y
          · exact s2.1 y
          · exact absurd (Prod.ext (by omega) (by omega)) na
    have k1 := key (turn u v) (v.1 - u.1) (v.2 - u.2) (fun q => by unfold turn; grind) (f a ha) (f b hb)
    have k2 := key (turn v w) (w.1 - v.1) (w.2 - v.2) (fun q => by unfold turn; grind) (g a ha) (g b hb)
    exact na (only_v h k1.1 k2.1)
  · have bary : ∀ (F : Pt → Int) (α β γ : Int), (∀ q, F q = α * q.1 + β * q.2 + γ) → F v = 0 → turn b c v * F a + turn c a v * F b + turn a b v * F c = 0 := by
      intro F α β γ hF f0
      have id : turn b c v * F a + turn c a v * F b + turn a b v * F c = (turn b c v + turn c a v + turn a b v) * F v := by
        simp only [hF]
        unfold turn
        grind
      rw [id, f0, Int.mul_zero]
    have z1 := bary (turn u v) (-(v.2 - u.2)) (v.1 - u.1) (u.1 * v.2 - u.2 * v.1) (fun q => by unfold turn; grind) (turn_self u v)
    have z2 := bary (turn v w) (-(w.2 - v.2)) (w.1 - v.1) (v.1 * w.2 - v.2 * w.1) (fun q => by unfold turn; grind) (turn_self2 v w)
    have tot : turn b c v + turn c a v + turn a b v = turn a b c := by unfold turn; grind
    have n1 := Int.mul_nonneg t2 (f a ha)
    have n2 := Int.mul_nonneg t3 (f b hb)
    have n3 := Int.mul_nonneg t1 (f c hc)
    have m1 := Int.mul_nonneg t2 (g a ha)
    have m2 := Int.mul_nonneg t3 (g b hb)
    have m3 := Int.mul_nonneg t1 (g c hc)
    have zero : ∀ {t x : Int}, 0 < t → t * x = 0 → x = 0 := fun {t x} h e => by
      rcases Int.mul_eq_zero.mp e with z | z
      · omega
      · exact z
    rcases Int.lt_or_le 0 (turn b c v) with p | p
    · exact na (only_v h (zero p (by omega)) (zero p (by omega)))
    · rcases Int.lt_or_le 0 (turn c a v) with p2 | p2
      · exact nb (only_v h (zero p2 (by omega)) (zero p2 (by omega)))
      · have p3 : 0 < turn a b v := by omega
        exact nc (only_v h (zero p3 (by omega)) (zero p3 (by omega)))
end Hul

set_option linter.all false
namespace Hul
def mul0 {t x : Int} (h : 0 < t) (e : t * x = 0) : x = 0 := by
  rcases Int.mul_eq_zero.mp e with z | z
  · omega
  · exact z
/-- edges there and back on one line: all lies on it -/
theorem line_all {x y z : Pt} {Q : List Pt} (hx : lt x y) (hz : lt z y) (e0 : turn x y z = 0) (f : ∀ q ∈ Q, 0 ≤ turn x y q) (g : ∀ q ∈ Q, 0 ≤ turn y z q) : ∀ q ∈ Q, turn x y q = 0 := fun q hq => by
  have fq := f q hq
  have gq := g q hq
  -- (y - z) and (y - x) are both Po, on one line: turn y z q and turn x y q have opposite signs
  have id1 : (y.1 - x.1) * turn y z q = -((y.1 - z.1) * turn x y q) - (q.1 - y.1) * turn x y z := by unfold turn; grind
  have id2 : (y.2 - x.2) * turn y z q = -((y.2 - z.2) * turn x y q) - (q.2 - y.2) * turn x y z := by unfold turn; grind
  rw [e0, Int.mul_zero, Int.sub_zero] at id1 id2
  unfold lt at hx hz
  rcases Int.lt_or_le z.1 y.1 with h | h
  · have a : 0 ≤ (y.1 - x.1) * turn y z q := Int.mul_nonneg (by omega) gq
    have b : 0 ≤ (y.1 - z.1) * turn x y q := Int.mul_nonneg (by omega) fq
    exact mul0 (show 0 < y.1 - z.1 by omega) (by omega)
  · have h2 : z.2 < y.2 := by omega
    have h1 : y.1 = z.1 := by omega
    rcases Int.lt_or_le x.1 y.1 with k | k
    · rw [h1, Int.sub_self, Int.zero_mul] at id1
      have w : turn y z q = 0 := mul0 (show 0 < z.1 - x.1 by omega) (by omega)
      rw [w, Int.mul_zero] at id2
      exact mul0 (show 0 < y.2 - z.2 by omega) (by omega)
    · have a : 0 ≤ (y.2 - x.2) * turn y z q := Int.mul_nonneg (by omega) gq
      have b : 0 ≤ (y.2 - z.2) * turn x y q := Int.mul_nonneg (by omega) fq
      exact mul0 (show 0 < y.2 - z.2 by omega) (by omega)
theorem line_all2 {x y z : Pt} {Q : List Pt} (hx : lt y x) (hz : lt y z) (e0 : turn x y z = 0) (f : ∀ q ∈ Q, 0 ≤ turn x y q) (g : ∀ q ∈ Q, 0 ≤ turn y z q) : ∀ q ∈ Q, turn x y q = 0 := fun q hq => by
  have h := line_all (x := ng x) (y := ng y) (z := ng z) (Q := Q.map ng) (lt_ng.mpr hx) (lt_ng.mpr hz) (by rw [turn_ng]; exact e0) (fun r hr => by
    obtain ⟨s, hs, rfl⟩ := List.mem_map.mp hr
    rw [turn_ng]; exact f s hs) (fun r hr => by
    obtain ⟨s, hs, rfl⟩ := List.mem_map.mp hr
    rw [turn_ng]; exact g s hs) (ng q) (List.mem_map_of_mem hq)
  rwa [turn_ng] at h
/-- all on one line through two: any three are -/
theorem col_any {x y a b c : Pt} (h : x ≠ y) (ha : turn x y a = 0) (hb : turn x y b = 0) (hc : turn x y c = 0) : turn a b c = 0 := by
  have id1 : (y.1 - x.1) * turn a b c = (b.1 - a.1) * (turn x y c - turn x y a) - (c.1 - a.1) * (turn x y b - turn x y a) := by unfold turn; grind
  have id2 : (y.2 - x.2) * turn a b c = (b.2 - a.2) * (turn x y c - turn x y a) - (c.2 - a.2) * (turn x y b - turn x y a) := by unfold turn; grind
  rw [ha, hb, hc] at id1 id2
  simp only [Int.mul_zero, Int.sub_self] at id1 id2
  rcases Int.mul_eq_zero.mp id1 with z | z
  · rcases Int.mul_eq_zero.mp id2 with w | w
    · exact absurd (Prod.ext (by omega) (by omega)) h
    · exact w
  · exact z
/-- a place inside: where the sign changes along a row -/
theorem change {f : Pt → Int} : ∀ {l : List Pt} {x : Pt}, 0 ≤ f x → (∃ z, (x :: l).getLast? = some z ∧ f z ≤ 0) → l ≠ [] → ∃ e ∈ prs (x :: l), 0 ≤ f e.1 ∧ f e.2 ≤ 0
  | [], x, _, _, h => absurd rfl h
  | y :: l, x, hx, ⟨z, hz, hf⟩, _ => by
    by_cases h : f y ≤ 0
    · exact ⟨(x, y), List.mem_cons_self, hx, h⟩
    · cases l with
      | nil =>
        have e : y = z := by simpa using hz
        rw [← e] at hf
        exact absurd hf h
      | cons w l =>
        obtain ⟨e, he, h1, h2⟩ := change (f := f) (l := w :: l) (x := y) (by omega) ⟨z, by rw [List.getLast?_cons_cons] at hz; exact hz, hf⟩ (by simp)
        exact ⟨e, List.mem_cons_of_mem _ he, h1, h2⟩
theorem prs_tail {x : Pt} {l : List Pt} {e : Pt × Pt} (h : e ∈ prs l) : e ∈ prs (x :: l) := by
  cases l with
  | nil => cases h
  | cons y l => exact List.mem_cons_of_mem _ h
theorem drop_mem {l : List Pt} {x : Pt} (h : x ∈ l.dropLast) : x ∈ l := List.dropLast_subset l h
theorem nodup_lt {L : Pt → Pt → Prop} (irr : ∀ p, ¬ L p p) {l : List Pt} (h : l.Pairwise L) : l.Nodup := h.imp fun {a b} h (e : a = b) => irr a (by rw [← e] at h; exact h)
theorem drop_pw {L : Pt → Pt → Prop} {l : List Pt} (h : l.Pairwise L) : l.dropLast.Pairwise L := h.sublist (List.dropLast_sublist l)
theorem drop_lt {L : Pt → Pt → Prop} {l : List Pt} {b : Pt} (h : l.Pairwise L) (e : l.getLast? = some b) : ∀ x ∈ l.dropLast, L x b := fun x hx => by
  have hne : l ≠ [] := by intro z; rw [z] at e; cases e
  have := List.dropLast_concat_getLast hne
  rw [List.getLast?_eq_some_getLast hne] at e
  rw [← this] at h
  rw [← Option.some.inj e]
  exact (List.pairwise_append.mp h).2.2 x hx _ (by simp)
theorem prs_first {x : Pt} {l : List Pt} (h : l ≠ []) : ∃ y, (x, y) ∈ prs (x :: l) ∧ l.head? = some y := by
  cases l with
  | nil => exact absurd rfl h
  | cons y l => exact ⟨y, List.mem_cons_self, rfl⟩
theorem prs_last : ∀ {l : List Pt} {b : Pt}, l.getLast? = some b → 2 ≤ l.length → ∃ x, (x, b) ∈ prs l ∧ x ∈ l.dropLast
  | [x, y], b, h, _ => ⟨x, by simp [prs] at h ⊢; exact h.symm, by simp⟩
  | x :: y :: z :: l, b, h, _ => by
    obtain ⟨w, h1, h2⟩ := prs_last (l := y :: z :: l) (b := b) (by rw [List.getLast?_cons_cons] at h; exact h) (by simp)
    exact ⟨w, List.mem_cons_of_mem _ h1, by
      show w ∈ x :: (y :: z :: l).dropLast
      exact List.mem_cons_of_mem _ h2⟩
/-- within a row, a place that is neither end has one ahead and one behind -/
theorem prs_in : ∀ {l : List Pt} {v : Pt}, v ∈ l → l.head? ≠ some v → ∃ u, (u, v) ∈ prs l
  | x :: l, v, h, h1 => by
    rcases List.mem_cons.mp h with e | h
    · exact absurd (by rw [e]; rfl) h1
    · cases l with
      | nil => cases h
      | cons y l =>
        by_cases e : y = v
        · exact ⟨x, by rw [← e]; exact List.mem_cons_self⟩
        · obtain ⟨u, hu⟩ := prs_in h (by simpa using e)
          exact ⟨u, List.mem_cons_of_mem _ hu⟩
theorem prs_out : ∀ {l : List Pt} {v : Pt}, v ∈ l.dropLast → ∃ w, (v, w) ∈ prs l
  | x :: y :: l, v, h => by
    have h : v ∈ x :: (y :: l).dropLast := h
    rcases List.mem_cons.mp h with e | h
    · exact ⟨y, by rw [e]; exact List.mem_cons_self⟩
    · obtain ⟨w, hw⟩ := prs_out h
      exact ⟨w, List.mem_cons_of_mem _ hw⟩
  | [_], _, h => by cases h
  | [], _, h => by cases h
theorem zip_pre {α β : Type} : ∀ {a : List α} {b : List β} (c : List β) {e : α × β}, e ∈ a.zip b → e ∈ a.zip (b ++ c)
  | x :: a, y :: b, c, e, h => by
    rcases List.mem_cons.mp h with h | h
    · rw [h]; exact List.mem_cons_self
    · exact List.mem_cons_of_mem _ (zip_pre c h)
  | [], _, _, _, h => by cases h
  | _ :: _, [], _, _, h => by cases h
theorem ring_ok {Q C D : List Pt} {m M : Pt} (sC : Side lt Q C m M) (sD : Side (fun a b => lt b a) Q D M m) (hmM : lt m M) (col : ∃ a ∈ Q, ∃ b ∈ Q, ∃ c ∈ Q, turn a b c ≠ 0) : HullOk Q (C.dropLast ++ D.dropLast) := by
  have two : ∀ {L : List Pt} {a b : Pt}, L.head? = some a → L.getLast? = some b → a ≠ b → 2 ≤ L.length := fun {L a b} h l n => by
    match L, h, l with
    | [x], h, l =>
      exfalso
      have e1 : x = a := by simpa using h
      have e2 : x = b := by simpa using l
      exact n (e1.symm.trans e2)
    | x :: y :: L, _, _ => simp
  have nM : m ≠ M := fun e => lt_irrefl (e ▸ hmM)
  have lC := two sC.hd sC.la nM
  have lD := two sD.hd sD.la (Ne.symm nM)
  have ed := edges_two sC.hd sC.la sD.hd sD.la lC lD
  have noCol : ∀ x y, x ≠ y → (∀ q ∈ Q, turn x y q = 0) → False := fun x y h all => by
    obtain ⟨a, ha, b, hb, c, hc, n⟩ := col
    exact n (col_any h (all a ha) (all b hb) (all c hc))
  have ne_lt : ∀ {x y : Pt}, lt x y → x ≠ y := fun h e => lt_irrefl (e ▸ h)
  have e6 : ∀ e ∈ prs C ++ prs D, ∀ q ∈ Q, 0 ≤ turn e.1 e.2 q := fun e he => by
    rcases List.mem_append.mp he with h | h
    · exact (sC.ed e h).2
    · exact (sD.ed e h).2
  have e5 : ∀ x y z, (x, y) ∈ prs C ++ prs D → (y, z) ∈ prs C ++ prs D → 0 < turn x y z := by
    intro x y z h1 h2
    have f := e6 _ h1
    have g := e6 _ h2
    rcases List.mem_append.mp h1 with k1 | k1 <;> rcases List.mem_append.mp h2 with k2 | k2
    · exact sC.tri x (prs_mem k1).1 y (prs_mem k1).2 z (prs_mem k2).2 (sC.ed _ k1).1 (sC.ed _ k2).1
    · have hx : lt x y := (sC.ed _ k1).1
      have hz : lt z y := (sD.ed _ k2).1
      have t : 0 ≤ turn x y z := f z (sD.su z (prs_mem k2).2)
      rcases Int.lt_or_le 0 (turn x y z) with w | w
      · exact w
      · exact (noCol x y (ne_lt hx) (line_all hx hz (by omega) f g)).elim
    · have hx : lt y x := (sD.ed _ k1).1
      have hz : lt y z := (sC.ed _ k2).1
      have t : 0 ≤ turn x y z := f z (sC.su z (prs_mem k2).2)
      rcases Int.lt_or_le 0 (turn x y z) with w | w
      · exact w
      · exact (noCol x y (Ne.symm (ne_lt hx)) (line_all2 hx hz (by omega) f g)).elim
    · exact sD.tri x (prs_mem k1).1 y (prs_mem k1).2 z (prs_mem k2).2 (sD.ed _ k1).1 (sD.ed _ k2).1
  have memR : ∀ x ∈ C.dropLast ++ D.dropLast, x ∈ Q := fun x hx => by
    rcases List.mem_append.mp hx with h | h
    · exact sC.su x (drop_mem h)
    · exact sD.su x (drop_mem h)
  -- each place of the ring has an edge ahead and one behind
  have into : ∀ v ∈ C.dropLast ++ D.dropLast, ∃ u, (u, v) ∈ prs C ++ prs D := fun v hv => by
    by_cases h : v = m
    · obtain ⟨x, hx, _⟩ := prs_last sD.la lD
      exact ⟨x, List.mem_append_right _ (h ▸ hx)⟩
    · rcases List.mem_append.mp hv with k | k
      · obtain ⟨u, hu⟩ := prs_in (drop_mem k) (by rw [sC.hd]; intro e; exact h (Option.some.inj e).symm)
        exact ⟨u, List.mem_append_left _ hu⟩
      · by_cases h2 : v = M
        · obtain ⟨x, hx, _⟩ := prs_last sC.la lC
          exact ⟨x, List.mem_append_left _ (h2 ▸ hx)⟩
        · obtain ⟨u, hu⟩ := prs_in (drop_mem k) (by rw [sD.hd]; intro e; exact h2 (Option.some.inj e).symm)
          exact ⟨u, List.mem_append_right _ hu⟩
  have out : ∀ v ∈ C.dropLast ++ D.dropLast, ∃ w, (v, w) ∈ prs C ++ prs D := fun v hv => by
    rcases List.mem_append.mp hv with k | k
    · obtain ⟨w, hw⟩ := prs_out k
      exact ⟨w, List.mem_append_left _ hw⟩
    · obtain ⟨w, hw⟩ := prs_out k
      exact ⟨w, List.mem_append_right _ hw⟩
  have hdR : (C.dropLast ++ D.dropLast).head? = some m := by
    match C, sC.hd, lC with
    | x :: y :: r, h, _ => simpa using h
  have l3 : 3 ≤ (C.dropLast ++ D.dropLast).length := by
    rw [List.length_append, List.length_dropLast, List.length_dropLast]
    rcases Nat.lt_or_ge 2 C.length with h | h
    · omega
    · rcases Nat.lt_or_ge 2 D.length with h2 | h2
      · omega
      · exfalso
        have cC : C = [m, M] := by
          match C, sC.hd, sC.la, lC, h with
          | [x, y], h1, h2, _, _ =>
            have e1 : x = m := by simpa using h1
            have e2 : y = M := by simpa using h2
            rw [e1, e2]
        have cD : D = [M, m] := by
          match D, sD.hd, sD.la, lD, h2 with
          | [x, y], h1, h2, _, _ =>
            have e1 : x = M := by simpa using h1
            have e2 : y = m := by simpa using h2
            rw [e1, e2]
        have := e5 m M m (by rw [cC]; simp [prs]) (by rw [cD]; simp [prs])
        rw [turn_self2] at this
        omega
  refine ⟨fun x y z h1 h2 => e5 x y z (ed ▸ h1) (ed ▸ h2), fun e he => e6 e (ed ▸ he), ?_, memR, fun v hv => ?_, fun q hq nq => ?_, ⟨m, hdR, sC.lo⟩, l3⟩
  · -- no place twice
    refine List.nodup_append.mpr ⟨nodup_lt (fun _ h => lt_irrefl h) (drop_pw sC.so), nodup_lt (L := fun a b => lt b a) (fun _ h => lt_irrefl h) (drop_pw sD.so), fun v hv w hw e => ?_⟩
    subst e
    have vM : lt v M := drop_lt sC.so sC.la v hv
    have vm : lt m v := drop_lt sD.so sD.la v hw
    obtain ⟨c1, h1⟩ := prs_in (drop_mem hv) (by rw [sC.hd]; intro e; exact lt_irrefl ((Option.some.inj e) ▸ vm))
    obtain ⟨c2, h2⟩ := prs_out hv
    obtain ⟨d2, h4⟩ := prs_out hw
    have u1 := po_of (sC.ed _ h1).1
    have w1 := po_of (sC.ed _ h2).1
    have t1 := po_of (sD.ed _ h4).1
    have k := e5 _ _ _ (List.mem_append_left _ h1) (List.mem_append_left _ h2)
    have a1 : 0 ≤ turn v d2 c1 := (sD.ed _ h4).2 c1 (sC.su _ (prs_mem h1).1)
    have a2 : 0 ≤ turn v d2 c2 := (sD.ed _ h4).2 c2 (sC.su _ (prs_mem h2).2)
    rw [turn_cr2] at k
    have b1 : 0 ≤ cr (sb v d2) (sb v c1) := by
      have : cr (sb v d2) (sb v c1) = turn v d2 c1 := by unfold cr sb turn; grind
      omega
    have b2 : 0 ≤ cr (sb c2 v) (sb v d2) := by
      have : cr (sb c2 v) (sb v d2) = turn v d2 c2 := by unfold cr sb turn; grind
      omega
    have b3 : 0 < cr (sb v d2) (sb c2 v) := slope_lt u1 t1 w1 b1 k
    rw [cr_anti] at b3
    omega
  · obtain ⟨u, hu⟩ := into v hv
    obtain ⟨w, hw⟩ := out v hv
    exact not_held (e5 _ _ _ hu hw) (e6 _ hu) (e6 _ hw)
  · -- inside: a triangle at m
    obtain ⟨t, ht⟩ : ∃ t, C.dropLast ++ D.dropLast = m :: t := by
      cases z : C.dropLast ++ D.dropLast with
      | nil => rw [z] at hdR; cases hdR
      | cons x t => rw [z] at hdR; exact ⟨t, by rw [Option.some.inj hdR]⟩
    have tl : 2 ≤ t.length := by rw [ht] at l3; simp at l3; omega
    obtain ⟨x1, t', rfl⟩ : ∃ x1 t', t = x1 :: t' := by
      cases t with
      | nil => simp at tl
      | cons x t' => exact ⟨x, t', rfl⟩
    -- edges of the ring, as a row
    have row : ∀ e ∈ prs (m :: x1 :: t'), e ∈ prs C ++ prs D := fun e he => by
      rw [← ed]
      unfold edges rot
      rw [ht]
      have := prs_zip (m :: x1 :: t')
      rw [this] at he
      exact zip_pre _ he
    have lastE : ∃ z, (x1 :: t').getLast? = some z ∧ (z, m) ∈ prs C ++ prs D := by
      obtain ⟨x, hx, hx2⟩ := prs_last sD.la lD
      -- the last of the ring is the last of D.dropLast
      have hne : D.dropLast ≠ [] := by intro z; rw [z] at hx2; cases hx2
      have eL : (m :: x1 :: t').getLast? = D.dropLast.getLast? := by
        rw [← ht, List.getLast?_append]
        cases z : D.dropLast.getLast? with
        | none => exact absurd (List.getLast?_eq_none_iff.mp z) hne
        | some w => rfl
      rw [List.getLast?_cons_cons] at eL
      refine ⟨D.dropLast.getLast hne, by rw [eL, List.getLast?_eq_some_getLast hne], List.mem_append_right _ ?_⟩
      have hD2 : D ≠ [] := by intro z; rw [z] at lD; simp at lD
      have e1 := List.dropLast_concat_getLast hD2
      have e2 := List.dropLast_concat_getLast hne
      have e3 : D.getLast hD2 = m := by
        have := sD.la
        rw [List.getLast?_eq_some_getLast hD2] at this
        exact Option.some.inj this
      rw [e3] at e1
      generalize D.dropLast.getLast hne = w at e2
      generalize hX : D.dropLast.dropLast = X at e2
      have e4 : D = X ++ [w, m] := by
        rw [← e1, ← e2]
        simp
      rw [congrArg prs e4, prs_snoc]
      simp
    obtain ⟨z, hz, hzm⟩ := lastE
    have f1 : 0 ≤ turn m x1 q := e6 _ (row (m, x1) List.mem_cons_self) q hq
    have fz : turn m z q ≤ 0 := by
      have := e6 _ hzm q hq
      have s := turn_swap z m q
      simp only at this
      omega
    have tne : t' ≠ [] := by intro z; subst z; simp at tl
    obtain ⟨e, he, g1, g2⟩ := change (f := fun x => turn m x q) f1 ⟨z, hz, fz⟩ tne
    have heR := row e (prs_tail he)
    have e3 := e6 e heR q hq
    have mems := prs_mem (l := x1 :: t') (x := e.1) (y := e.2) he
    have ringE : ∀ x ∈ x1 :: t', x ∈ C.dropLast ++ D.dropLast := fun x hx => by rw [ht]; exact List.mem_cons_of_mem _ hx
    have nd : (m :: x1 :: t').Nodup → m ∉ x1 :: t' := fun h => (List.nodup_cons.mp h).1
    have nm : ∀ x ∈ x1 :: t', lt m x := by
      -- m is no other place of the ring
      intro x hx
      rcases sC.lo x (memR x (ringE x hx)) with h | h
      · exfalso
        subst h
        -- the ring is m :: ..; C.dropLast = m :: C', all of C' above m; D.dropLast all above m
        obtain ⟨C', hC'⟩ : ∃ C', C.dropLast = x :: C' := by
          match C, sC.hd, lC with
          | a :: b :: r, h, _ =>
            have e1 : a = x := by simpa using h
            subst e1
            exact ⟨_, rfl⟩
        have hs := drop_pw sC.so
        rw [hC'] at hs
        have t2 : x1 :: t' = C' ++ D.dropLast := by
          rw [hC'] at ht
          exact (List.cons.inj ht).2.symm
        rw [t2] at hx
        rcases List.mem_append.mp hx with k | k
        · exact lt_irrefl ((List.pairwise_cons.mp hs).1 x k)
        · exact lt_irrefl (drop_lt sD.so sD.la x k)
      · exact h
    have pos : 0 < turn m e.1 e.2 := by
      have mC : m ∈ C := List.mem_of_head? sC.hd
      have mD : m ∈ D := List.mem_of_getLast? sD.la
      rcases List.mem_append.mp heR with k | k
      · exact sC.tri m mC e.1 (prs_mem (x := e.1) (y := e.2) k).1 e.2 (prs_mem (x := e.1) (y := e.2) k).2 (nm e.1 mems.1) (sC.ed e k).1
      · rw [turn_cyc]
        exact sD.tri e.1 (prs_mem (x := e.1) (y := e.2) k).1 e.2 (prs_mem (x := e.1) (y := e.2) k).2 m mD (sD.ed e k).1 (nm e.2 mems.2)
    have notq : ∀ x ∈ C.dropLast ++ D.dropLast, x ≠ q := fun x hx e => nq (e ▸ hx)
    have mR : m ∈ C.dropLast ++ D.dropLast := by rw [ht]; exact List.mem_cons_self
    refine ⟨m, memR m mR, notq m mR, e.1, memR _ (ringE _ mems.1), notq _ (ringE _ mems.1), .inr ⟨e.2, memR _ (ringE _ mems.2), notq _ (ringE _ mems.2), pos, g1, e3, ?_⟩⟩
    rw [turn_swap]
    omega
end Hul

set_option linter.all false
namespace Hul
def dot (p r : Pt) : Int := p.1 * r.1 + p.2 * r.2
theorem sq_nn (a : Int) : 0 ≤ a * a := by
  rcases Int.lt_or_le a 0 with h | h
  · have := Int.mul_nonneg (show 0 ≤ -a by omega) (show 0 ≤ -a by omega)
    rw [Int.neg_mul_neg] at this
    exact this
  · exact Int.mul_nonneg h h
theorem sq_zero {a : Int} (h : a * a ≤ 0) : a = 0 := by
  have := sq_nn a
  rcases Int.mul_eq_zero.mp (show a * a = 0 by omega) with z | z <;> exact z
/-- between two, by the product of the ways -/
theorem on_dot {o p s : Pt} : On o p s ↔ turn o p s = 0 ∧ dot (sb o s) (sb p s) ≤ 0 := by
  have e : turn o p s = 0 → (o.1 - s.1) * (p.2 - s.2) = (o.2 - s.2) * (p.1 - s.1) := fun h => by
    have : turn o p s = (o.1 - s.1) * (p.2 - s.2) - (o.2 - s.2) * (p.1 - s.1) := by unfold turn; grind
    omega
  have box : ∀ a b c : Int, (min a b ≤ c ∧ c ≤ max a b) ↔ (a - c) * (b - c) ≤ 0 := by
    intro a b c
    constructor
    · intro h
      rcases Int.lt_or_le (a - c) 0 with h1 | h1
      · have := Int.mul_nonneg (show 0 ≤ -(a - c) by omega) (show 0 ≤ b - c by omega)
        rw [Int.neg_mul] at this
        omega
      · by_cases h0 : a - c = 0
        · rw [h0, Int.zero_mul]
          exact Int.le_refl _
        · have := Int.mul_nonneg h1 (show 0 ≤ -(b - c) by omega)
          rw [Int.mul_neg] at this
          omega
    · intro h
      rcases Int.lt_or_le c (min a b) with h1 | h1
      · have := Int.mul_pos (show 0 < a - c by omega) (show 0 < b - c by omega)
        omega
      · rcases Int.lt_or_le (max a b) c with h2 | h2
        · have := Int.mul_pos (show 0 < -(a - c) by omega) (show 0 < -(b - c) by omega)
          rw [Int.neg_mul_neg] at this
          omega
        · exact ⟨h1, h2⟩
  unfold On dot sb
  constructor
  · rintro ⟨t, h1, h2⟩
    have a := (box _ _ _).mp h1
    have b := (box _ _ _).mp h2
    exact ⟨t, by simp only; omega⟩
  · rintro ⟨t, h⟩
    simp only at h
    have k := e t
    have pr : ((o.1 - s.1) * (p.1 - s.1)) * ((o.2 - s.2) * (p.2 - s.2)) = ((o.1 - s.1) * (p.2 - s.2)) * ((o.1 - s.1) * (p.2 - s.2)) := by
      conv => rhs; rhs; rw [k]
      grind
    have nn := sq_nn ((o.1 - s.1) * (p.2 - s.2))
    rw [← pr] at nn
    generalize ha : (o.1 - s.1) * (p.1 - s.1) = a at *
    generalize hb : (o.2 - s.2) * (p.2 - s.2) = b at *
    refine ⟨t, (box _ _ _).mpr ?_, (box _ _ _).mpr ?_⟩
    · rw [ha]
      rcases Int.lt_or_le 0 a with h1 | h1
      · have := Int.mul_pos h1 (show 0 < -b by omega)
        rw [Int.mul_neg] at this
        omega
      · exact h1
    · rw [hb]
      rcases Int.lt_or_le 0 b with h1 | h1
      · have := Int.mul_pos (show 0 < -a by omega) h1
        rw [Int.neg_mul] at this
        omega
      · exact h1
theorem par {z P R : Pt} (h : cr P R = 0) : P.1 * cr z R = R.1 * cr z P ∧ P.2 * cr z R = R.2 * cr z P := by
  unfold cr at *
  have e : P.1 * R.2 = P.2 * R.1 := by omega
  constructor <;> grind
theorem vec0 {P : Pt} (h : dot P P ≤ 0) : P.1 = 0 ∧ P.2 = 0 := by
  unfold dot at h
  have a := sq_nn P.1
  have b := sq_nn P.2
  exact ⟨sq_zero (by omega), sq_zero (by omega)⟩
theorem LX {z P R : Pt} (h : cr P R = 0) (d : dot P R ≤ 0) (l : cr z P < cr z R) : cr z P ≤ 0 ∧ 0 ≤ cr z R := by
  obtain ⟨h1, h2⟩ := par (z := z) h
  have i1 : cr z R * dot P P = cr z P * dot P R := by unfold dot; grind
  have i2 : cr z P * dot R R = cr z R * dot P R := by unfold dot; grind
  have c0 : ∀ {w : Pt}, w.1 = 0 ∧ w.2 = 0 → cr z w = 0 := fun {w} e => by unfold cr; rw [e.1, e.2]; omega
  refine ⟨?_, ?_⟩
  · rcases Int.lt_or_le 0 (cr z P) with h3 | h3
    · have a := Int.mul_nonneg (show 0 ≤ cr z R by omega) (show 0 ≤ -dot P R by omega)
      rw [Int.mul_neg] at a
      have r0 : dot R R ≤ 0 := by
        rcases Int.lt_or_le 0 (dot R R) with h4 | h4
        · have := Int.mul_pos h3 h4
          omega
        · exact h4
      have := c0 (vec0 r0)
      omega
    · exact h3
  · rcases Int.lt_or_le (cr z R) 0 with h3 | h3
    · have a := Int.mul_nonneg (show 0 ≤ -cr z P by omega) (show 0 ≤ -dot P R by omega)
      rw [Int.neg_mul_neg] at a
      have r0 : dot P P ≤ 0 := by
        rcases Int.lt_or_le 0 (dot P P) with h4 | h4
        · have := Int.mul_pos (show 0 < -cr z R by omega) h4
          rw [Int.neg_mul] at this
          omega
        · exact h4
      have := c0 (vec0 r0)
      omega
    · exact h3
theorem LY {z P R : Pt} (h : cr P R = 0) (a : cr z P ≤ 0) (b : 0 ≤ cr z R) (l : cr z P < cr z R) : dot P R ≤ 0 := by
  obtain ⟨h1, h2⟩ := par (z := z) h
  have i1 : cr z R * dot P R = cr z P * dot R R := by unfold dot; grind
  have nn : 0 ≤ dot R R := by
    unfold dot
    have := sq_nn R.1
    have := sq_nn R.2
    omega
  rcases Int.lt_or_le 0 (cr z R) with h3 | h3
  · have k := Int.mul_nonneg (show 0 ≤ -cr z P by omega) nn
    rw [Int.neg_mul] at k
    rcases Int.lt_or_le 0 (dot P R) with h4 | h4
    · have := Int.mul_pos h3 h4
      omega
    · exact h4
  · have z0 : cr z R = 0 := by omega
    rw [z0, Int.zero_mul] at i1
    have r0 : dot R R ≤ 0 := by
      rcases Int.lt_or_le 0 (dot R R) with h4 | h4
      · have := Int.mul_pos (show 0 < -cr z P by omega) h4
        rw [Int.neg_mul] at this
        omega
      · exact h4
    obtain ⟨r1, r2⟩ := vec0 r0
    unfold dot
    rw [r1, r2]
    omega
def Beside (a b c d : Pt) : Prop := (turn c d a < 0 ∧ 0 < turn c d b) ∨ (turn c d b < 0 ∧ 0 < turn c d a)
def Meet (a b c d : Pt) : Prop := (Beside a b c d ∧ Beside c d a b) ∨ On a b c ∨ On a b d ∨ On c d a ∨ On c d b
/-- lines not of one direction: by signs -/
theorem meet_sign {a b c d : Pt} (h : 0 < cr (sb b a) (sb d c)) : Meet a b c d ↔ 0 ≤ turn c d a ∧ turn c d b ≤ 0 ∧ turn a b c ≤ 0 ∧ 0 ≤ turn a b d := by
  have e1 : turn c d a - turn c d b = cr (sb b a) (sb d c) := by unfold turn cr sb; grind
  have e2 : turn a b d - turn a b c = cr (sb b a) (sb d c) := by unfold turn cr sb; grind
  have A1 : turn c d a = -cr (sb c d) (sb a c) := by unfold turn cr sb; grind
  -- as readings of one vector
  have cA : ∀ {p : Pt}, turn c d p = 0 ∨ True := fun {p} => .inr trivial
  have v1 : ∀ p, cr (sb c d) (sb p c) = -turn c d p := fun p => by unfold turn cr sb; grind
  have v1' : ∀ p, cr (sb c d) (sb p d) = -turn c d p := fun p => by unfold turn cr sb; grind
  have v2 : ∀ p, cr (sb b a) (sb p a) = turn a b p := fun p => by unfold turn cr sb; grind
  have v2' : ∀ p, cr (sb b a) (sb p b) = turn a b p := fun p => by unfold turn cr sb; grind
  have z1 : ∀ s, cr (sb a s) (sb b s) = turn a b s := fun s => by unfold turn cr sb; grind
  have z2 : ∀ s, cr (sb c s) (sb d s) = turn c d s := fun s => by unfold turn cr sb; grind
  constructor
  · rintro (⟨h1, h2⟩ | h1 | h1 | h1 | h1)
    · unfold Beside at h1 h2
      omega
    · obtain ⟨t, dd⟩ := on_dot.mp h1
      have := LX (z := sb c d) (by rw [z1]; exact t) dd (by rw [v1, v1]; omega)
      rw [v1, v1] at this
      omega
    · obtain ⟨t, dd⟩ := on_dot.mp h1
      have := LX (z := sb c d) (by rw [z1]; exact t) dd (by rw [v1', v1']; omega)
      rw [v1', v1'] at this
      omega
    · obtain ⟨t, dd⟩ := on_dot.mp h1
      have := LX (z := sb b a) (by rw [z2]; exact t) dd (by rw [v2, v2]; omega)
      rw [v2, v2] at this
      omega
    · obtain ⟨t, dd⟩ := on_dot.mp h1
      have := LX (z := sb b a) (by rw [z2]; exact t) dd (by rw [v2', v2']; omega)
      rw [v2', v2'] at this
      omega
  · rintro ⟨h1, h2, h3, h4⟩
    by_cases c1 : turn a b c = 0
    · refine .inr (.inl (on_dot.mpr ⟨c1, LY (z := sb c d) (by rw [z1]; exact c1) ?_ ?_ ?_⟩)) <;> simp only [v1] <;> omega
    · by_cases c2 : turn a b d = 0
      · refine .inr (.inr (.inl (on_dot.mpr ⟨c2, LY (z := sb c d) (by rw [z1]; exact c2) ?_ ?_ ?_⟩))) <;> simp only [v1'] <;> omega
      · by_cases c3 : turn c d a = 0
        · refine .inr (.inr (.inr (.inl (on_dot.mpr ⟨c3, LY (z := sb b a) (by rw [z2]; exact c3) ?_ ?_ ?_⟩)))) <;> simp only [v2] <;> omega
        · by_cases c4 : turn c d b = 0
          · refine .inr (.inr (.inr (.inr (on_dot.mpr ⟨c4, LY (z := sb b a) (by rw [z2]; exact c4) ?_ ?_ ?_⟩)))) <;> simp only [v2'] <;> omega
          · left
            unfold Beside
            omega
theorem meet_swap {a b c d : Pt} : Meet a b c d ↔ Meet a b d c := by
  have s : ∀ p, turn d c p = -turn c d p := fun p => turn_swap d c p
  have o : ∀ p, On d c p ↔ On c d p := fun p => by
    unfold On
    rw [s]
    constructor <;> (rintro ⟨t, h1, h2⟩; exact ⟨by omega, by omega, by omega⟩)
  unfold Meet Beside
  rw [s, s, o, o]
  constructor
  · rintro (h | h | h | h | h)
    · exact .inl (by omega)
    · exact .inr (.inr (.inl h))
    · exact .inr (.inl h)
    · exact .inr (.inr (.inr (.inl h)))
    · exact .inr (.inr (.inr (.inr h)))
  · rintro (h | h | h | h | h)
    · exact .inl (by omega)
    · exact .inr (.inr (.inl h))
    · exact .inr (.inl h)
    · exact .inr (.inr (.inr (.inl h)))
    · exact .inr (.inr (.inr (.inr h)))
theorem meet_sign2 {a b c d : Pt} (h : cr (sb b a) (sb d c) < 0) : Meet a b c d ↔ turn c d a ≤ 0 ∧ 0 ≤ turn c d b ∧ turn a b d ≤ 0 ∧ 0 ≤ turn a b c := by
  rw [meet_swap, meet_sign (by
    have : cr (sb b a) (sb c d) = -cr (sb b a) (sb d c) := by unfold cr sb; grind
    omega)]
  have s : ∀ p, turn d c p = -turn c d p := fun p => turn_swap d c p
  rw [s, s]
  omega
theorem meet_par {a b c d : Pt} (h : cr (sb b a) (sb d c) = 0) : Meet a b c d ↔ On a b c ∨ On a b d ∨ On c d a ∨ On c d b := by
  have e1 : turn c d a - turn c d b = cr (sb b a) (sb d c) := by unfold turn cr sb; grind
  unfold Meet Beside
  constructor
  · rintro (h1 | h1)
    · omega
    · exact h1
  · exact .inr
end Hul

set_option Elab.async false
set_option linter.all false
set_option maxRecDepth 100000
set_option maxHeartbeats 4000000
namespace K12
open PySem PySem.Spec L2 Mp
open PyProof.Rows hiding St

noncomputable section
def topS (i : Nat) : Stmt := PySem.Challenge.pw_roofshadows_k12_turns_hulls_common_point.main.body.getD i (.Pass ⟨0, 0, 0, 0⟩)
def isub : Sub := fun j i => if j = 0 ∧ i = 0 then some true else if j = 0 ∧ i = 1 then some false else if j = 0 ∧ i = 2 then some true else if j = 1 ∧ i = 0 then some false else if j = 1 ∧ i = 1 then some true else if j = 1 ∧ i = 2 then some true else if j = 2 ∧ i = 0 then some false else if j = 2 ∧ i = 1 then some false else if j = 2 ∧ i = 2 then some true else none
abbrev s_is_integer : Stmt := topS 5
theorem sc_is_integer : FnScope ["value"] ["value"] (defScope s_is_integer) := ⟨by kernel_rfl, by kernel_rfl, by kernel_rfl, by decide +kernel, by kernel_rfl, by decide +kernel, by decide +kernel⟩
def m_is_integer : M Fl :=
    (retS (andV (op1 (isiO .int) (peekv 0)) (notV (op1 (isiO .bool) (peekv 0)))))
def f_is_integer : List D → M D := fnM 1 1 m_is_integer
abbrev s_is_within : Stmt := topS 6
theorem sc_is_within : FnScope ["value", "low", "high"] ["value", "low", "high"] (defScope s_is_within) := ⟨by kernel_rfl, by kernel_rfl, by kernel_rfl, by decide +kernel, by kernel_rfl, by decide +kernel, by decide +kernel⟩
def m_is_within : M Fl :=
    (retS (andV (callM f_is_integer (argC (getv 0) argN)) (chain2 leO leO (peekv 1) (peekv 0) (peekv 2))))
def f_is_within : List D → M D := fnM 3 3 m_is_within
abbrev s_is_row : Stmt := topS 7
theorem sc_is_row : FnScope ["value", "many"] ["value", "many"] (defScope s_is_row) := ⟨by kernel_rfl, by kernel_rfl, by kernel_rfl, by decide +kernel, by kernel_rfl, by decide +kernel, by decide +kernel⟩
def m_is_row : M Fl :=
    (retS (andV (op1 (isiO .tuple) (peekv 0)) (op2 eqO (op1 lenO (peekv 0)) (peekv 1))))
def f_is_row : List D → M D := fnM 2 2 m_is_row
abbrev s_is_spot : Stmt := topS 12
theorem sc_is_spot : FnScope ["value", "part"] ["value"] (defScope s_is_spot) := ⟨by kernel_rfl, by kernel_rfl, by kernel_rfl, by decide +kernel, by kernel_rfl, by decide +kernel, by decide +kernel⟩
def ce1_is_spot : M D :=
    (callM f_is_within (argC (getv 1) (argC (op1 negO (ret (.int (999)))) (argC (ret (.int (999))) argN))))
def c1_is_spot : M (List D) :=
    (lcM [1] (seqI (getv 0)) (setv 1) yesM ce1_is_spot)
def m_is_spot : M Fl :=
    (retS (andV (callM f_is_row (argC (getv 0) (argC (ret (.int 2)) argN))) (op1 allO (frzd c1_is_spot))))
def f_is_spot : List D → M D := fnM 2 1 m_is_spot
abbrev s_want_spot : Stmt := topS 13
theorem sc_want_spot : FnScope ["value"] ["value"] (defScope s_want_spot) := ⟨by kernel_rfl, by kernel_rfl, by kernel_rfl, by decide +kernel, by kernel_rfl, by decide +kernel, by decide +kernel⟩
def m_want_spot : M Fl :=
    (seqS (ifS (notB (testM (callM f_is_spot (argC (getv 0) argN)))) (raise1 1 "value" (getv 0)) (ret .nx))
    (retS (getv 0)))
def f_want_spot : List D → M D := fnM 1 1 m_want_spot
abbrev s_cross : Stmt := topS 17
theorem sc_cross : FnScope ["way", "other"] ["way", "other"] (defScope s_cross) := ⟨by kernel_rfl, by kernel_rfl, by kernel_rfl, by decide +kernel, by kernel_rfl, by decide +kernel, by decide +kernel⟩
def m_cross : M Fl :=
    (retS (op2 subO (op2 repO (op2 subsO (peekv 0) (ret (.int 0))) (op2 subsO (peekv 1) (ret (.int 1)))) (op2 repO (op2 subsO (peekv 0) (ret (.int 1))) (op2 subsO (peekv 1) (ret (.int 0))))))
def f_cross : List D → M D := fnM 2 2 m_cross
abbrev s_way_of : Stmt := topS 16
theorem sc_way_of : FnScope ["one", "other"] ["one", "other"] (defScope s_way_of) := ⟨by kernel_rfl, by kernel_rfl, by kernel_rfl, by decide +kernel, by kernel_rfl, by decide +kernel, by decide +kernel⟩
def m_way_of : M Fl :=
    (retS (bnd (argC (op2 subO (op2 subsO (peekv 1) (ret (.int 0))) (op2 subsO (peekv 0) (ret (.int 0)))) (argC (op2 subO (op2 subsO (peekv 1) (ret (.int 1))) (op2 subsO (peekv 0) (ret (.int 1)))) argN)) mkTup))
def f_way_of : List D → M D := fnM 2 2 m_way_of
abbrev s_turn_of : Stmt := topS 19
theorem sc_turn_of : FnScope ["one", "two", "three"] ["one", "two", "three"] (defScope s_turn_of) := ⟨by kernel_rfl, by kernel_rfl, by kernel_rfl, by decide +kernel, by kernel_rfl, by decide +kernel, by decide +kernel⟩
def m_turn_of : M Fl :=
    (retS (callM f_cross (argC (callM f_way_of (argC (getv 0) (argC (getv 1) argN))) (argC (callM f_way_of (argC (getv 0) (argC (getv 2) argN))) argN))))
def f_turn_of : List D → M D := fnM 3 3 m_turn_of
abbrev s_are_spots : Stmt := topS 14
theorem sc_are_spots : FnScope ["value", "spot"] ["value"] (defScope s_are_spots) := ⟨by kernel_rfl, by kernel_rfl, by kernel_rfl, by decide +kernel, by kernel_rfl, by decide +kernel, by decide +kernel⟩
def ce1_are_spots : M D :=
    (op2 eqO (callM f_turn_of (argC (op2 subsO (peekv 0) (ret (.int 0))) (argC (op2 subsO (peekv 0) (ret (.int 1))) (argC (getv 1) argN)))) (ret (.int 0)))
def c1_are_spots : M (List D) :=
    (lcM [1] (seqI (getv 0)) (setv 1) yesM ce1_are_spots)
def ce2_are_spots : M D :=
    (callM f_is_spot (argC (getv 1) argN))
def c2_are_spots : M (List D) :=
    (lcM [1] (seqI (getv 0)) (setv 1) yesM ce2_are_spots)
def m_are_spots : M Fl :=
    (seqS (ifS (orB (notB (testM (op1 (isiO .tuple) (peekv 0)))) (notB (asB (chain2 leO leO (ret (.int (3))) (op1 lenO (peekv 0)) (ret (.int (24))))))) (retS (ret (.bl false))) (ret .nx))
    (seqS (ifS (orB (notB (testM (op1 allO (frzd c2_are_spots)))) (asB (op2 ltO (op1 setLenO (peekv 0)) (op1 lenO (peekv 0))))) (retS (ret (.bl false))) (ret .nx))
    (retS (notV (op1 allO (frzd c1_are_spots))))))
def f_are_spots : List D → M D := fnM 2 1 m_are_spots
abbrev s_want_spots : Stmt := topS 15
theorem sc_want_spots : FnScope ["value"] ["value"] (defScope s_want_spots) := ⟨by kernel_rfl, by kernel_rfl, by kernel_rfl, by decide +kernel, by kernel_rfl, by decide +kernel, by decide +kernel⟩
def m_want_spots : M Fl :=
    (ifS (notB (testM (callM f_are_spots (argC (getv 0) argN)))) (raise1 0 "value" (getv 0)) (ret .nx))
def f_want_spots : List D → M D := fnM 1 1 m_want_spots
abbrev s_dot : Stmt := topS 18
theorem sc_dot : FnScope ["way", "other"] ["way", "other"] (defScope s_dot) := ⟨by kernel_rfl, by kernel_rfl, by kernel_rfl, by decide +kernel, by kernel_rfl, by decide +kernel, by decide +kernel⟩
def m_dot : M Fl :=
    (retS (op2 catO (op2 repO (op2 subsO (peekv 0) (ret (.int 0))) (op2 subsO (peekv 1) (ret (.int 0)))) (op2 repO (op2 subsO (peekv 0) (ret (.int 1))) (op2 subsO (peekv 1) (ret (.int 1))))))
def f_dot : List D → M D := fnM 2 2 m_dot
abbrev s_is_between : Stmt := topS 20
theorem sc_is_between : FnScope ["one", "other", "spot"] ["one", "other", "spot"] (defScope s_is_between) := ⟨by kernel_rfl, by kernel_rfl, by kernel_rfl, by decide +kernel, by kernel_rfl, by decide +kernel, by decide +kernel⟩
def m_is_between : M Fl :=
    (seqS (ifS (asB (op2 neO (callM f_turn_of (argC (getv 0) (argC (getv 1) (argC (getv 2) argN)))) (ret (.int 0)))) (retS (ret (.bl false))) (ret .nx))
    (retS (op2 leO (callM f_dot (argC (callM f_way_of (argC (getv 2) (argC (getv 0) argN))) (argC (callM f_way_of (argC (getv 2) (argC (getv 1) argN))) argN))) (ret (.int 0)))))
def f_is_between : List D → M D := fnM 3 3 m_is_between
abbrev s_is_beside : Stmt := topS 21
theorem sc_is_beside : FnScope ["one", "other", "three", "four", "near", "far"] ["one", "other", "three", "four"] (defScope s_is_beside) := ⟨by kernel_rfl, by kernel_rfl, by kernel_rfl, by decide +kernel, by kernel_rfl, by decide +kernel, by decide +kernel⟩
def m_is_beside : M Fl :=
    (seqS (par2 (argC (callM f_turn_of (argC (getv 2) (argC (getv 3) (argC (getv 0) argN)))) (argC (callM f_turn_of (argC (getv 2) (argC (getv 3) (argC (getv 1) argN)))) argN)) 4 5)
    (retS (orV (chain2 ltO ltO (peekv 4) (ret (.int 0)) (peekv 5)) (chain2 ltO ltO (peekv 5) (ret (.int 0)) (peekv 4)))))
def f_is_beside : List D → M D := fnM 6 4 m_is_beside
abbrev s_do_meet : Stmt := topS 22
theorem sc_do_meet : FnScope ["one", "other", "three", "four"] ["one", "other", "three", "four"] (defScope s_do_meet) := ⟨by kernel_rfl, by kernel_rfl, by kernel_rfl, by decide +kernel, by kernel_rfl, by decide +kernel, by decide +kernel⟩
def m_do_meet : M Fl :=
    (seqS (ifS (andB (testM (callM f_is_beside (argC (getv 0) (argC (getv 1) (argC (getv 2) (argC (getv 3) argN)))))) (testM (callM f_is_beside (argC (getv 2) (argC (getv 3) (argC (getv 0) (argC (getv 1) argN))))))) (retS (ret (.bl true))) (ret .nx))
    (seqS (ifS (orB (testM (callM f_is_between (argC (getv 0) (argC (getv 1) (argC (getv 2) argN))))) (testM (callM f_is_between (argC (getv 0) (argC (getv 1) (argC (getv 3) argN)))))) (retS (ret (.bl true))) (ret .nx))
    (retS (orV (callM f_is_between (argC (getv 2) (argC (getv 3) (argC (getv 0) argN)))) (callM f_is_between (argC (getv 2) (argC (getv 3) (argC (getv 1) argN))))))))
def f_do_meet : List D → M D := fnM 4 4 m_do_meet
abbrev s_chain_of : Stmt := topS 23
theorem sc_chain_of : FnScope ["spots", "found", "spot"] ["spots"] (defScope s_chain_of) := ⟨by kernel_rfl, by kernel_rfl, by kernel_rfl, by decide +kernel, by kernel_rfl, by decide +kernel, by decide +kernel⟩
def wc1_chain_of : M Bool :=
    (andB (asB (op2 gtO (op1 lenO (peekv 1)) (ret (.int 1)))) (asB (op2 leO (callM f_turn_of (argC (op2 subsO (peekv 1) (op1 negO (ret (.int 2)))) (argC (op2 subsO (peekv 1) (op1 negO (ret (.int 1)))) (argC (getv 2) argN)))) (ret (.int 0)))))
def wb1_chain_of : M Fl :=
    (popS 1)
def w1_chain_of : M Fl :=
    (whS wc1_chain_of wb1_chain_of)
def lb1_chain_of : M Fl :=
    (seqS w1_chain_of
    (appS 1 (getv 2)))
def l1_chain_of : M Fl :=
    (forS (seqI (getv 0)) (setv 2) lb1_chain_of)
def m_chain_of : M Fl :=
    (seqS (ownS (bnd argN mkLst) 1)
    (seqS l1_chain_of
    (retS (sliceM (peekv 1) partN (partS (op1 negO (ret (.int 1))))))))
def f_chain_of : List D → M D := fnM 3 1 m_chain_of
abbrev s_hull_ring : Stmt := topS 24
theorem sc_hull_ring : FnScope ["spots", "some"] ["spots"] (defScope s_hull_ring) := ⟨by kernel_rfl, by kernel_rfl, by kernel_rfl, by decide +kernel, by kernel_rfl, by decide +kernel, by decide +kernel⟩
def m_hull_ring : M Fl :=
    (seqS (asgS (op1 sortO (peekv 0)) (setv 1))
    (retS (op2 catO (callM f_chain_of (argC (getv 1) argN)) (callM f_chain_of (argC (revA (peekv 1)) argN)))))
def f_hull_ring : List D → M D := fnM 2 1 m_hull_ring
abbrev s_turn : Stmt := topS 25
theorem sc_turn : FnScope ["spot", "second_spot", "third_spot"] ["spot", "second_spot", "third_spot"] (defScope s_turn) := ⟨by kernel_rfl, by kernel_rfl, by kernel_rfl, by decide +kernel, by kernel_rfl, by decide +kernel, by decide +kernel⟩
def m_turn : M Fl :=
    (seqS (dropS (callM f_want_spot (argC (getv 0) argN)))
    (seqS (dropS (callM f_want_spot (argC (getv 1) argN)))
    (retS (callM f_turn_of (argC (getv 0) (argC (getv 1) (argC (callM f_want_spot (argC (getv 2) argN)) argN)))))))
def f_turn : List D → M D := fnM 3 3 m_turn
abbrev s_hull : Stmt := topS 26
theorem sc_hull : FnScope ["places"] ["places"] (defScope s_hull) := ⟨by kernel_rfl, by kernel_rfl, by kernel_rfl, by decide +kernel, by kernel_rfl, by decide +kernel, by decide +kernel⟩
def m_hull : M Fl :=
    (seqS (dropS (callM f_want_spots (argC (getv 0) argN)))
    (retS (op1 tupleO (callM f_hull_ring (argC (getv 0) argN)))))
def f_hull : List D → M D := fnM 1 1 m_hull
abbrev s_have_common : Stmt := topS 27
theorem sc_have_common : FnScope ["spot", "second_spot", "third_spot", "fourth_spot", "one"] ["spot", "second_spot", "third_spot", "fourth_spot"] (defScope s_have_common) := ⟨by kernel_rfl, by kernel_rfl, by kernel_rfl, by decide +kernel, by kernel_rfl, by decide +kernel, by decide +kernel⟩
def lb1_have_common : M Fl :=
    (dropS (callM f_want_spot (argC (getv 4) argN)))
def l1_have_common : M Fl :=
    (forS (seqI (bnd (argC (getv 0) (argC (getv 1) (argC (getv 2) (argC (getv 3) argN)))) mkTup)) (setv 4) lb1_have_common)
def m_have_common : M Fl :=
    (seqS l1_have_common
    (retS (callM f_do_meet (argC (getv 0) (argC (getv 1) (argC (getv 2) (argC (getv 3) argN)))))))
def f_have_common : List D → M D := fnM 5 4 m_have_common
abbrev s_law_pot : Stmt := topS 29
theorem sc_law_pot : FnScope ["script", "k", "cell"] ["script", "k"] (defScope s_law_pot) := ⟨by kernel_rfl, by kernel_rfl, by kernel_rfl, by decide +kernel, by kernel_rfl, by decide +kernel, by decide +kernel⟩
def m_law_pot : M Fl :=
    (seqS (asgS (op2 catO (op2 repO (ret (.int 877)) (peekv 1)) (ret (.int 521))) (setv 2))
    (seqS (ifS (asB (op2 ltO (peekv 1) (op1 lenO (peekv 0)))) (asgS (op1 absO (op2 subsO (peekv 0) (peekv 1))) (setv 2)) (ret .nx))
    (retS (refd (bnd (argC (op2 maxO (ret (.int 0)) (op2 subO (peekv 2) (op2 powO (ret (.int 10)) (ret (.int 18))))) (argC (op2 catO (op2 modO (op1 intO (op2 catO (op2 catO (op2 repO (op2 modO (op1 intO (peekv 2)) (ret (.int 2147483549))) (ret (.int 40927))) (op2 repO (ret (.int 521)) (peekv 1))) (ret (.int 59)))) (ret (.int 2147483563))) (ret (.int 1))) argN)) mkLst)))))
def f_law_pot : List D → M D := fnM 3 2 m_law_pot
abbrev s_law_draw : Stmt := topS 30
theorem sc_law_draw : FnScope ["pot", "many", "digit"] ["pot", "many"] (defScope s_law_draw) := ⟨by kernel_rfl, by kernel_rfl, by kernel_rfl, by decide +kernel, by kernel_rfl, by decide +kernel, by decide +kernel⟩
def m_law_draw : M Fl :=
    (seqS (ifS (asB (op2 gtO (op2 subsO (peekv 0) (ret (.int 0))) (ret (.int 0)))) (seqS (asgS (op2 divmodO (op2 subsO (peekv 0) (ret (.int 0))) (peekv 1)) (tgtT 2 (tgtC (tgtS (peekv 0) (ret (.int 0))) (tgtC (setv 2) tgtN))))
    (retS (getv 2))) (ret .nx))
    (seqS (asgS (op2 modO (op1 intO (op2 catO (op2 repO (op2 subsO (peekv 0) (ret (.int 1))) (ret (.int 48271))) (ret (.int 991)))) (ret (.int 2147483587))) (tgtS (peekv 0) (ret (.int 1))))
    (retS (op2 modO (op1 intO (op2 fdivO (op2 modO (op1 intO (op2 repO (op2 subsO (peekv 0) (ret (.int 1))) (op2 subsO (peekv 0) (ret (.int 1))))) (ret (.int 2147483563))) (ret (.int 19)))) (peekv 1)))))
def f_law_draw : List D → M D := fnM 3 2 m_law_draw
abbrev s_law_pick : Stmt := topS 31
theorem sc_law_pick : FnScope ["pot", "some"] ["pot", "some"] (defScope s_law_pick) := ⟨by kernel_rfl, by kernel_rfl, by kernel_rfl, by decide +kernel, by kernel_rfl, by decide +kernel, by decide +kernel⟩
def m_law_pick : M Fl :=
    (retS (op2 subsO (peekv 1) (callM f_law_draw (argC (getv 0) (argC (op1 lenO (peekv 1)) argN)))))
def f_law_pick : List D → M D := fnM 2 2 m_law_pick
abbrev s_law_turn : Stmt := topS 32
theorem sc_law_turn : FnScope ["one", "two", "three"] ["one", "two", "three"] (defScope s_law_turn) := ⟨by kernel_rfl, by kernel_rfl, by kernel_rfl, by decide +kernel, by kernel_rfl, by decide +kernel, by decide +kernel⟩
def m_law_turn : M Fl :=
    (retS (op2 subO (op2 repO (op2 subO (op2 subsO (peekv 1) (ret (.int 0))) (op2 subsO (peekv 0) (ret (.int 0)))) (op2 subO (op2 subsO (peekv 2) (ret (.int 1))) (op2 subsO (peekv 0) (ret (.int 1))))) (op2 repO (op2 subO (op2 subsO (peekv 1) (ret (.int 1))) (op2 subsO (peekv 0) (ret (.int 1)))) (op2 subO (op2 subsO (peekv 2) (ret (.int 0))) (op2 subsO (peekv 0) (ret (.int 0)))))))
def f_law_turn : List D → M D := fnM 3 3 m_law_turn
abbrev s_law_on : Stmt := topS 33
theorem sc_law_on : FnScope ["one", "two", "spot"] ["one", "two", "spot"] (defScope s_law_on) := ⟨by kernel_rfl, by kernel_rfl, by kernel_rfl, by decide +kernel, by kernel_rfl, by decide +kernel, by decide +kernel⟩
def m_law_on : M Fl :=
    (seqS (ifS (asB (op2 neO (callM f_law_turn (argC (getv 0) (argC (getv 1) (argC (getv 2) argN)))) (ret (.int 0)))) (retS (ret (.bl false))) (ret .nx))
    (retS (andV (chain2 leO leO (op2 minO (op2 subsO (peekv 0) (ret (.int 0))) (op2 subsO (peekv 1) (ret (.int 0)))) (op2 subsO (peekv 2) (ret (.int 0))) (op2 maxO (op2 subsO (peekv 0) (ret (.int 0))) (op2 subsO (peekv 1) (ret (.int 0))))) (chain2 leO leO (op2 minO (op2 subsO (peekv 0) (ret (.int 1))) (op2 subsO (peekv 1) (ret (.int 1)))) (op2 subsO (peekv 2) (ret (.int 1))) (op2 maxO (op2 subsO (peekv 0) (ret (.int 1))) (op2 subsO (peekv 1) (ret (.int 1))))))))
def f_law_on : List D → M D := fnM 3 3 m_law_on
abbrev s_law_spots : Stmt := topS 34
theorem sc_law_spots : FnScope ["pot", "many", "most", "found", "step", "spot"] ["pot", "many", "most"] (defScope s_law_spots) := ⟨by kernel_rfl, by kernel_rfl, by kernel_rfl, by decide +kernel, by kernel_rfl, by decide +kernel, by decide +kernel⟩
def lb1_law_spots : M Fl :=
    (seqS (asgS (bnd (argC (op2 subO (callM f_law_draw (argC (getv 0) (argC (op2 catO (op2 repO (ret (.int 2)) (peekv 2)) (ret (.int 1))) argN))) (peekv 2)) (argC (op2 subO (callM f_law_draw (argC (getv 0) (argC (op2 catO (op2 repO (ret (.int 2)) (peekv 2)) (ret (.int 1))) argN))) (peekv 2)) argN)) mkTup) (setv 5))
    (ifS (asB (op2 ninO (peekv 5) (peekv 3))) (appS 3 (getv 5)) (ret .nx)))
def l1_law_spots : M Fl :=
    (forS (overA rng1O (argC (getv 1) argN)) (setv 4) lb1_law_spots)
def m_law_spots : M Fl :=
    (seqS (ownS (bnd argN mkLst) 3)
    (seqS l1_law_spots
    (retS (getv 3))))
def f_law_spots : List D → M D := fnM 6 3 m_law_spots
abbrev s_law_is_held : Stmt := topS 35
theorem sc_law_is_held : FnScope ["spots", "spot", "others", "one", "two", "three", "turns", "other"] ["spots", "spot"] (defScope s_law_is_held) := ⟨by kernel_rfl, by kernel_rfl, by kernel_rfl, by decide +kernel, by kernel_rfl, by decide +kernel, by decide +kernel⟩
def lb1_law_is_held : M Fl :=
    (seqS (asgS (frzd (bnd (argC (callM f_law_turn (argC (getv 3) (argC (getv 4) (argC (getv 1) argN)))) (argC (callM f_law_turn (argC (getv 4) (argC (getv 5) (argC (getv 1) argN)))) (argC (callM f_law_turn (argC (getv 5) (argC (getv 3) (argC (getv 1) argN)))) argN))) mkLst)) (setv 6))
    (ifS (andB (asB (op2 gtO (callM f_law_turn (argC (getv 3) (argC (getv 4) (argC (getv 5) argN)))) (ret (.int 0)))) (asB (op2 geO (op1 minLO (peekv 6)) (ret (.int 0))))) (retS (ret (.bl true))) (ret .nx)))
def l1_law_is_held : M Fl :=
    (forS (seqI (getv 2)) (setv 5) lb1_law_is_held)
def lb2_law_is_held : M Fl :=
    (seqS (ifS (andB (asB (op2 neO (peekv 3) (peekv 4))) (testM (callM f_law_on (argC (getv 3) (argC (getv 4) (argC (getv 1) argN)))))) (retS (ret (.bl true))) (ret .nx))
    l1_law_is_held)
def l2_law_is_held : M Fl :=
    (forS (seqI (getv 2)) (setv 4) lb2_law_is_held)
def lb3_law_is_held : M Fl :=
    l2_law_is_held
def l3_law_is_held : M Fl :=
    (forS (seqI (getv 2)) (setv 3) lb3_law_is_held)
def ct1_law_is_held : M Bool :=
    (asB (op2 neO (peekv 7) (peekv 1)))
def ce1_law_is_held : M D :=
    (getv 7)
def c1_law_is_held : M (List D) :=
    (lcM [7] (seqI (getv 0)) (setv 7) ct1_law_is_held ce1_law_is_held)
def m_law_is_held : M Fl :=
    (seqS (asgS (frzd c1_law_is_held) (setv 2))
    (seqS l3_law_is_held
    (retS (ret (.bl false)))))
def f_law_is_held : List D → M D := fnM 8 2 m_law_is_held
abbrev s_law_hull_right : Stmt := topS 36
theorem sc_law_hull_right : FnScope ["pot", "spots", "told", "e", "ring", "due", "turns", "one", "two", "spot", "three"] ["pot"] (defScope s_law_hull_right) := ⟨by kernel_rfl, by kernel_rfl, by kernel_rfl, by decide +kernel, by kernel_rfl, by decide +kernel, by decide +kernel⟩
def ce1_law_hull_right : M D :=
    (callM f_law_turn (argC (getv 7) (argC (getv 8) (argC (getv 9) argN))))
def c1_law_hull_right : M (List D) :=
    (lcM [9] (seqI (getv 1)) (setv 9) yesM ce1_law_hull_right)
def lb1_law_hull_right : M Fl :=
    (ifS (asB (op2 ltO (op1 minLO (frzd c1_law_hull_right)) (ret (.int 0)))) (retS (ret (.bl false))) (ret .nx))
def l1_law_hull_right : M Fl :=
    (forS (overA zipO (argC (getv 4) (argC (op2 catO (sliceM (peekv 4) (partS (ret (.int 1))) partN) (sliceM (peekv 4) partN (partS (ret (.int 1))))) argN))) (tgtT 2 (tgtC (setv 7) (tgtC (setv 8) tgtN))) lb1_law_hull_right)
def ce2_law_hull_right : M D :=
    (callM f_law_turn (argC (getv 7) (argC (getv 8) (argC (getv 10) argN))))
def c2_law_hull_right : M (List D) :=
    (lcM [7, 8, 10] (overA zipO (argC (getv 4) (argC (op2 catO (sliceM (peekv 4) (partS (ret (.int 1))) partN) (sliceM (peekv 4) partN (partS (ret (.int 1))))) (argC (op2 catO (sliceM (peekv 4) (partS (ret (.int 2))) partN) (sliceM (peekv 4) partN (partS (ret (.int 2))))) argN)))) (tgtT 3 (tgtC (setv 7) (tgtC (setv 8) (tgtC (setv 10) tgtN)))) yesM ce2_law_hull_right)
def ct1_law_hull_right : M Bool :=
    (notB (testM (callM f_law_is_held (argC (getv 1) (argC (getv 9) argN)))))
def ce3_law_hull_right : M D :=
    (getv 9)
def c3_law_hull_right : M (List D) :=
    (lcM [9] (seqI (getv 1)) (setv 9) ct1_law_hull_right ce3_law_hull_right)
def ct2_law_hull_right : M Bool :=
    (asB (op2 neO (callM f_law_turn (argC (op2 subsO (peekv 1) (ret (.int 0))) (argC (op2 subsO (peekv 1) (ret (.int 1))) (argC (getv 9) argN)))) (ret (.int 0))))
def ce4_law_hull_right : M D :=
    (getv 9)
def c4_law_hull_right : M (List D) :=
    (lcM [9] (seqI (getv 1)) (setv 9) ct2_law_hull_right ce4_law_hull_right)
def tb1_law_hull_right : M Fl :=
    (asgS (callM f_hull (argC (op1 tupleO (peekv 1)) argN)) (setv 2))
def th1_law_hull_right : M Fl :=
    (asgS (op1 reprO (excF 3 3 "value")) (setv 2))
def m_law_hull_right : M Fl :=
    (seqS (asgS (callM f_law_spots (argC (getv 0) (argC (op2 catO (ret (.int 3)) (callM f_law_draw (argC (getv 0) (argC (ret (.int 8)) argN)))) (argC (callM f_law_pick (argC (getv 0) (argC (frzd (bnd (argC (ret (.int 2)) (argC (ret (.int 5)) (argC (ret (.int 999)) argN))) mkLst)) argN))) argN)))) (setv 1))
    (seqS (asgS (ret .non) (setv 2))
    (seqS (ifS (orB (asB (op2 ltO (op1 lenO (peekv 1)) (ret (.int 3)))) (asB (op2 eqO (frzd c4_law_hull_right) (frzd (bnd argN mkLst))))) (seqS (tryS isub tb1_law_hull_right [(0, some 3, th1_law_hull_right)])
    (retS (op2 eqO (peekv 2) (op1 reprO (op1 tupleO (peekv 1)))))) (ret .nx))
    (seqS (asgS (callM f_hull (argC (op1 tupleO (peekv 1)) argN)) (setv 4))
    (seqS (asgS (op1 sortO (frzd c3_law_hull_right)) (setv 5))
    (seqS (ifS (orB (notB (testM (op1 (isiO .tuple) (peekv 4)))) (orB (asB (op2 neO (op1 sortO (peekv 4)) (peekv 5))) (orB (asB (op2 neO (op2 subsO (peekv 4) (ret (.int 0))) (op2 subsO (peekv 5) (ret (.int 0))))) (asB (op2 neO (callK 0 1 [0] f_hull argN (argC (op1 tupleO (peekv 1)) argN)) (peekv 4)))))) (retS (ret (.bl false))) (ret .nx))
    (seqS (asgS (frzd c2_law_hull_right) (setv 6))
    (seqS l1_law_hull_right
    (retS (andV (op2 gtO (op1 minLO (peekv 6)) (ret (.int 0))) (op2 eqO (callM f_hull (argC (op1 tupleO (revA (peekv 1))) argN)) (peekv 4))))))))))))
def f_law_hull_right : List D → M D := fnM 11 1 m_law_hull_right
abbrev s_law_common : Stmt := topS 37
theorem sc_law_common : FnScope ["one", "two", "three", "four", "a", "b", "c", "under", "sign", "near", "far"] ["one", "two", "three", "four"] (defScope s_law_common) := ⟨by kernel_rfl, by kernel_rfl, by kernel_rfl, by decide +kernel, by kernel_rfl, by decide +kernel, by decide +kernel⟩
def m_law_common : M Fl :=
    (seqS (par2 (argC (bnd (argC (op2 subO (op2 subsO (peekv 1) (ret (.int 0))) (op2 subsO (peekv 0) (ret (.int 0)))) (argC (op2 subO (op2 subsO (peekv 1) (ret (.int 1))) (op2 subsO (peekv 0) (ret (.int 1)))) argN)) mkTup) (argC (bnd (argC (op2 subO (op2 subsO (peekv 3) (ret (.int 0))) (op2 subsO (peekv 2) (ret (.int 0)))) (argC (op2 subO (op2 subsO (peekv 3) (ret (.int 1))) (op2 subsO (peekv 2) (ret (.int 1)))) argN)) mkTup) argN)) 4 5)
    (seqS (par2 (argC (bnd (argC (op2 subO (op2 subsO (peekv 2) (ret (.int 0))) (op2 subsO (peekv 0) (ret (.int 0)))) (argC (op2 subO (op2 subsO (peekv 2) (ret (.int 1))) (op2 subsO (peekv 0) (ret (.int 1)))) argN)) mkTup) (argC (op2 subO (op2 repO (op2 subsO (peekv 4) (ret (.int 0))) (op2 subsO (peekv 5) (ret (.int 1)))) (op2 repO (op2 subsO (peekv 4) (ret (.int 1))) (op2 subsO (peekv 5) (ret (.int 0))))) argN)) 6 7)
    (seqS (ifS (asB (op2 neO (peekv 7) (ret (.int 0)))) (seqS (asgS (ifV (asB (op2 gtO (peekv 7) (ret (.int 0)))) (ret (.int 1)) (op1 negO (ret (.int 1)))) (setv 8))
    (seqS (par2 (argC (op2 repO (peekv 8) (op2 subO (op2 repO (op2 subsO (peekv 6) (ret (.int 0))) (op2 subsO (peekv 5) (ret (.int 1)))) (op2 repO (op2 subsO (peekv 6) (ret (.int 1))) (op2 subsO (peekv 5) (ret (.int 0)))))) (argC (op2 repO (peekv 8) (op2 subO (op2 repO (op2 subsO (peekv 6) (ret (.int 0))) (op2 subsO (peekv 4) (ret (.int 1)))) (op2 repO (op2 subsO (peekv 6) (ret (.int 1))) (op2 subsO (peekv 4) (ret (.int 0)))))) argN)) 9 10)
    (retS (andV (chain2 leO leO (ret (.int 0)) (peekv 9) (op1 absO (peekv 7))) (chain2 leO leO (ret (.int 0)) (peekv 10) (op1 absO (peekv 7))))))) (ret .nx))
    (retS (orV (callM f_law_on (argC (getv 0) (argC (getv 1) (argC (getv 2) argN)))) (orV (callM f_law_on (argC (getv 0) (argC (getv 1) (argC (getv 3) argN)))) (orV (callM f_law_on (argC (getv 2) (argC (getv 3) (argC (getv 0) argN)))) (callM f_law_on (argC (getv 2) (argC (getv 3) (argC (getv 1) argN)))))))))))
def f_law_common : List D → M D := fnM 11 4 m_law_common
abbrev s_law_four : Stmt := topS 38
theorem sc_law_four : FnScope ["pot", "top", "some", "by", "step"] ["pot"] (defScope s_law_four) := ⟨by kernel_rfl, by kernel_rfl, by kernel_rfl, by decide +kernel, by kernel_rfl, by decide +kernel, by decide +kernel⟩
def ce1_law_four : M D :=
    (bnd (argC (op2 catO (op2 fdivO (op2 subsO (op2 subsO (peekv 2) (ret (.int 0))) (ret (.int 0))) (ret (.int 9))) (op2 repO (peekv 4) (ret (.int 3)))) (argC (op2 catO (op2 fdivO (op2 subsO (op2 subsO (peekv 2) (ret (.int 0))) (ret (.int 1))) (ret (.int 9))) (op2 repO (peekv 4) (ret (.int 2)))) argN)) mkTup)
def c1_law_four : M (List D) :=
    (lcM [4] (seqI (getv 3)) (setv 4) yesM ce1_law_four)
def ce2_law_four : M D :=
    (op2 subO (callM f_law_draw (argC (getv 0) (argC (ret (.int 7)) argN))) (ret (.int 3)))
def c2_law_four : M (List D) :=
    (lcM [4] (overA rng1O (argC (ret (.int 4)) argN)) (setv 4) yesM ce2_law_four)
def ce3_law_four : M D :=
    (bnd (argC (op2 subO (callM f_law_draw (argC (getv 0) (argC (op2 catO (op2 repO (ret (.int 2)) (peekv 1)) (ret (.int 1))) argN))) (peekv 1)) (argC (op2 subO (callM f_law_draw (argC (getv 0) (argC (op2 catO (op2 repO (ret (.int 2)) (peekv 1)) (ret (.int 1))) argN))) (peekv 1)) argN)) mkTup)
def c3_law_four : M (List D) :=
    (lcM [4] (overA rng1O (argC (ret (.int 4)) argN)) (setv 4) yesM ce3_law_four)
def m_law_four : M Fl :=
    (seqS (asgS (callM f_law_pick (argC (getv 0) (argC (frzd (bnd (argC (ret (.int 2)) (argC (ret (.int 4)) (argC (ret (.int 999)) argN))) mkLst)) argN))) (setv 1))
    (seqS (asgS (frzd c3_law_four) (setv 2))
    (seqS (ifS (asB (op2 eqO (callM f_law_draw (argC (getv 0) (argC (ret (.int 4)) argN))) (ret (.int 0)))) (seqS (asgS (frzd c2_law_four) (setv 3))
    (asgS (frzd c1_law_four) (setv 2))) (ret .nx))
    (retS (getv 2)))))
def f_law_four : List D → M D := fnM 5 1 m_law_four
abbrev s_law_lines_right : Stmt := topS 39
theorem sc_law_lines_right : FnScope ["pot", "one", "two", "three", "four", "due", "told"] ["pot"] (defScope s_law_lines_right) := ⟨by kernel_rfl, by kernel_rfl, by kernel_rfl, by decide +kernel, by kernel_rfl, by decide +kernel, by decide +kernel⟩
def m_law_lines_right : M Fl :=
    (seqS (asgS (callM f_law_four (argC (getv 0) argN)) (tgtT2 4 (tgtC (setv 1) (tgtC (setv 2) (tgtC (setv 3) (tgtC (setv 4) tgtN))))))
    (seqS (asgS (callM f_law_common (argC (getv 1) (argC (getv 2) (argC (getv 3) (argC (getv 4) argN))))) (setv 5))
    (seqS (ownS (bnd (argC (callM f_have_common (argC (getv 1) (argC (getv 2) (argC (getv 3) (argC (getv 4) argN))))) (argC (callM f_have_common (argC (getv 4) (argC (getv 3) (argC (getv 1) (argC (getv 2) argN))))) argN)) mkLst) 6)
    (seqS (appS 6 (callK 0 4 [3, 2, 1, 0] f_have_common argN (argC (getv 4) (argC (getv 3) (argC (getv 2) (argC (getv 1) argN))))))
    (seqS (ifS (asB (op2 neO (op1 reprO (peekv 6)) (op1 reprO (op2 repO (frzd (bnd (argC (getv 5) argN) mkLst)) (ret (.int 3)))))) (retS (ret (.bl false))) (ret .nx))
    (seqS (asgS (op2 subO (op2 repO (op2 subO (op2 subsO (peekv 2) (ret (.int 0))) (op2 subsO (peekv 1) (ret (.int 0)))) (op2 subO (op2 subsO (peekv 3) (ret (.int 1))) (op2 subsO (peekv 1) (ret (.int 1))))) (op2 repO (op2 subO (op2 subsO (peekv 2) (ret (.int 1))) (op2 subsO (peekv 1) (ret (.int 1)))) (op2 subO (op2 subsO (peekv 3) (ret (.int 0))) (op2 subsO (peekv 1) (ret (.int 0)))))) (setv 5))
    (retS (op2 eqO (op1 reprO (frzd (bnd (argC (callM f_turn (argC (getv 1) (argC (getv 2) (argC (getv 3) argN)))) (argC (callK 0 3 [2, 1, 0] f_turn argN (argC (getv 3) (argC (getv 2) (argC (getv 1) argN)))) (argC (callM f_turn (argC (getv 2) (argC (getv 1) (argC (getv 3) argN)))) argN))) mkLst))) (op1 reprO (frzd (bnd (argC (getv 5) (argC (getv 5) (argC (op1 negO (peekv 5)) argN))) mkLst)))))))))))
def f_law_lines_right : List D → M D := fnM 7 1 m_law_lines_right
abbrev s_law_heard : Stmt := topS 40
theorem sc_law_heard : FnScope ["call", "told", "e"] ["call"] (defScope s_law_heard) := ⟨by kernel_rfl, by kernel_rfl, by kernel_rfl, by decide +kernel, by kernel_rfl, by decide +kernel, by decide +kernel⟩
def tb1_law_heard (acts : Acts) : M Fl :=
    (dropS (callS acts 0))
def th1_law_heard (acts : Acts) : M Fl :=
    (asgS (frzd (bnd (argC (ret (.str "places")) (argC (op1 reprO (excF 3 2 "value")) (argC (isE isub 3 2 2) argN))) mkLst)) (setv 1))
def th2_law_heard (acts : Acts) : M Fl :=
    (asgS (frzd (bnd (argC (ret (.str "spot")) (argC (op1 reprO (excF 3 2 "value")) (argC (isE isub 3 2 2) argN))) mkLst)) (setv 1))
def m_law_heard (acts : Acts) : M Fl :=
    (seqS (asgS (frzd (bnd (argC (ret (.str "let")) argN) mkLst)) (setv 1))
    (seqS (tryS isub (tb1_law_heard acts) [(1, some 2, (th2_law_heard acts)), (0, some 2, (th1_law_heard acts))])
    (retS (getv 1))))
def f_law_heard : Acts → List D → M D := fun acts => fnM 3 1 (m_law_heard acts)
abbrev s_law_refused_right : Stmt := topS 41
theorem sc_law_refused_right : FnScope ["pot", "bad", "good", "calls", "value", "many", "call", "at"] ["pot"] (defScope s_law_refused_right) := ⟨by kernel_rfl, by kernel_rfl, by kernel_rfl, by decide +kernel, by kernel_rfl, by decide +kernel, by decide +kernel⟩
abbrev le_0 : Expr := (eAt (seAt (sAt (defBody s_law_refused_right) 1) 0) 0)
def lm_0 : M D :=
    (callM f_turn (argC (getv 1) (argC (ret .non) (argC (ret .non) argN))))
abbrev le_1 : Expr := (eAt (seAt (sAt (defBody s_law_refused_right) 2) 0) 1)
def lm_1 : M D :=
    (callM f_turn (argC (getv 2) (argC (getv 1) (argC (ret .non) argN))))
abbrev le_2 : Expr := (eAt (seAt (sAt (defBody s_law_refused_right) 3) 0) 1)
def lm_2 : M D :=
    (callM f_turn (argC (getv 2) (argC (getv 2) (argC (getv 1) argN))))
abbrev le_3 : Expr := (eAt (seAt (sAt (defBody s_law_refused_right) 4) 0) 1)
def lm_3 : M D :=
    (callM f_have_common (argC (getv 1) (argC (ret .non) (argC (ret .non) (argC (ret .non) argN)))))
abbrev le_4 : Expr := (eAt (seAt (sAt (defBody s_law_refused_right) 5) 0) 1)
def lm_4 : M D :=
    (callM f_have_common (argC (getv 2) (argC (getv 2) (argC (getv 1) (argC (ret .non) argN)))))
abbrev le_5 : Expr := (eAt (seAt (sAt (defBody s_law_refused_right) 6) 0) 1)
def lm_5 : M D :=
    (callM f_have_common (argC (getv 2) (argC (getv 2) (argC (getv 2) (argC (getv 1) argN)))))
abbrev le_6 : Expr := (eAt (eAt (seAt (sAt (stB (sAt (defBody s_law_refused_right) 8)) 0) 0) 0) 1)
def lm_6 : M D :=
    (callM f_hull (argC (getv 4) argN))
abbrev le_7 : Expr := (eAt (eAt (eAt (seAt (sAt (defBody s_law_refused_right) 10) 0) 0) 0) 1)
def lm_7 : M D :=
    (callM f_hull (argC (getv 5) argN))
def lams_law_refused_right : Nat → M D := fun n => if n = 0 then lm_0 else if n = 1 then lm_1 else if n = 2 then lm_2 else if n = 3 then lm_3 else if n = 4 then lm_4 else if n = 5 then lm_5 else if n = 6 then lm_6 else if n = 7 then lm_7 else stk
def ce1_law_refused_right (L : Addr) : M D :=
    (bnd (argC (getv 7) (argC (op2 repO (peekv 7) (peekv 7)) argN)) mkTup)
def c1_law_refused_right (L : Addr) : M (List D) :=
    (lcM [7] (overA rng1O (argC (ret (.int 25)) argN)) (setv 7) yesM (ce1_law_refused_right L))
def lb1_law_refused_right (L : Addr) : M Fl :=
    (ifS (asB (op2 neO (callCM f_law_heard (fun s => frameActs L lams_law_refused_right s.env) (argC (cloM L 6) argN)) (frzd (bnd (argC (ret (.str "places")) (argC (op1 reprO (peekv 4)) (argC (ret (.bl true)) argN))) mkLst)))) (retS (ret (.bl false))) (ret .nx))
def l1_law_refused_right (L : Addr) : M Fl :=
    (forS (seqI (frzd (bnd (argC (ret .non) (argC (bnd argN mkTup) (argC (bnd (argC (bnd (argC (ret (.int 0)) (argC (ret (.int 0)) argN)) mkTup) (argC (bnd (argC (ret (.int 1)) (argC (ret (.int 0)) argN)) mkTup) argN)) mkTup) (argC (frzd (bnd (argC (bnd (argC (ret (.int 0)) (argC (ret (.int 0)) argN)) mkTup) (argC (bnd (argC (ret (.int 1)) (argC (ret (.int 0)) argN)) mkTup) (argC (bnd (argC (ret (.int 0)) (argC (ret (.int 1)) argN)) mkTup) argN))) mkLst)) (argC (bnd (argC (bnd (argC (ret (.int 0)) (argC (ret (.int 0)) argN)) mkTup) (argC (bnd (argC (ret (.int 1)) (argC (ret (.int 0)) argN)) mkTup) (argC (bnd (argC (ret (.int 0)) (argC (ret (.int 0)) argN)) mkTup) argN))) mkTup) (argC (bnd (argC (bnd (argC (ret (.int 0)) (argC (ret (.int 0)) argN)) mkTup) (argC (bnd (argC (ret (.int 1)) (argC (ret (.int 1)) argN)) mkTup) (argC (bnd (argC (ret (.int 2)) (argC (ret (.int 2)) argN)) mkTup) argN))) mkTup) (argC (bnd (argC (bnd (argC (ret (.int 0)) (argC (ret (.int 0)) argN)) mkTup) (argC (bnd (argC (ret (.int 1)) (argC (ret (.int 0)) argN)) mkTup) (argC (getv 1) argN))) mkTup) argN))))))) mkLst))) (setv 4) (lb1_law_refused_right L))
def ct1_law_refused_right (L : Addr) (acts : Acts) : M Bool :=
    (asB (op2 neO (callCM f_law_heard (fun _ => acts) (argC (getv 6) argN)) (frzd (bnd (argC (ret (.str "spot")) (argC (op1 reprO (peekv 1)) (argC (ret (.bl true)) argN))) mkLst))))
def ce2_law_refused_right (L : Addr) (acts : Acts) : M D :=
    (getv 6)
def c2_law_refused_right (L : Addr) : M (List D) :=
    (lcMC [6] (seqI (getv 3)) (setv 6) (fun acts => (ct1_law_refused_right L acts)) (fun acts => (ce2_law_refused_right L acts)) (fun s => frameActs L lams_law_refused_right s.env))
def m_law_refused_right (L : Addr) : M Fl :=
    (seqS (asgS (bnd (argC (callM f_law_pick (argC (getv 0) (argC (frzd (bnd (argC (ret .non) (argC (bnd (argC (ret (.int 1)) argN) mkTup) (argC (frzd (bnd (argC (ret (.int 1)) (argC (ret (.int 2)) argN)) mkLst)) (argC (bnd (argC (ret (.int 1)) (argC (ret (.int 2)) (argC (ret (.int 3)) argN))) mkTup) (argC (bnd (argC (ret (.int 1000)) (argC (ret (.int 0)) argN)) mkTup) (argC (bnd (argC (ret (.int 0)) (argC (op1 negO (ret (.int 1000))) argN)) mkTup) (argC (bnd (argC (ret (.bl true)) (argC (ret (.int 0)) argN)) mkTup) (argC (bnd (argC (ret (.int 0)) (argC (bnd (argC (ret (.int 1)) (argC (ret (.int 1)) argN)) mkTup) argN)) mkTup) (argC (ret (.str "00")) argN))))))))) mkLst)) argN))) (argC (bnd (argC (ret (.int 999)) (argC (op1 negO (ret (.int 999))) argN)) mkTup) argN)) mkTup) (tgtT 2 (tgtC (setv 1) (tgtC (setv 2) tgtN))))
    (seqS (ownS (bnd (argC (cloM L 0) argN) mkLst) 3)
    (seqS (appS 3 (cloM L 1))
    (seqS (appS 3 (cloM L 2))
    (seqS (appS 3 (cloM L 3))
    (seqS (appS 3 (cloM L 4))
    (seqS (appS 3 (cloM L 5))
    (seqS (ifS (asB (op2 neO (frzd (c2_law_refused_right L)) (frzd (bnd argN mkLst)))) (retS (ret (.bl false))) (ret .nx))
    (seqS (l1_law_refused_right L)
    (seqS (asgS (op1 tupleO (frzd (c1_law_refused_right L))) (setv 5))
    (retS (andV (op2 eqO (callCM f_law_heard (fun s => frameActs L lams_law_refused_right s.env) (argC (cloM L 7) argN)) (frzd (bnd (argC (ret (.str "places")) (argC (op1 reprO (peekv 5)) (argC (ret (.bl true)) argN))) mkLst))) (op2 eqO (op1 lenO (callM f_hull (argC (sliceM (peekv 5) partN (partS (ret (.int 24)))) argN))) (ret (.int 24)))))))))))))))
def f_law_refused_right : List D → M D := indepM fun L => fnM 8 1 (m_law_refused_right L)
abbrev s_law : Stmt := topS 42
theorem sc_law : FnScope ["script", "pot", "other", "turn_number"] ["script"] (defScope s_law) := ⟨by kernel_rfl, by kernel_rfl, by kernel_rfl, by decide +kernel, by kernel_rfl, by decide +kernel, by decide +kernel⟩
def lb1_law : M Fl :=
    (ifS (orB (notB (testM (callM f_law_lines_right (argC (getv 1) argN)))) (notB (testM (callM f_law_lines_right (argC (getv 2) argN))))) (retS (ret (.bl false))) (ret .nx))
def l1_law : M Fl :=
    (forS (overA rng1O (argC (ret (.int 4)) argN)) (setv 3) lb1_law)
def m_law : M Fl :=
    (seqS (par2 (argC (callM f_law_pot (argC (getv 0) (argC (ret (.int 0)) argN))) (argC (callM f_law_pot (argC (getv 0) (argC (ret (.int 1)) argN))) argN)) 1 2)
    (seqS l1_law
    (retS (andV (callM f_law_hull_right (argC (getv 1) argN)) (andV (callM f_law_hull_right (argC (getv 2) argN)) (callM f_law_refused_right (argC (getv 1) argN)))))))
def f_law : List D → M D := fnM 4 1 m_law
structure Tx (K : PySem.W.Frag) (mg : Str → Option Value) (lt : Nat → LamI) where
  a_is_integer : Addr
  d_is_integer : FuncData
  F_is_integer : Fun K "is_integer" "is_integer" s_is_integer a_is_integer d_is_integer
  C_is_integer : Cf K mg "is_integer" a_is_integer d_is_integer ["value"]
  a_is_within : Addr
  d_is_within : FuncData
  F_is_within : Fun K "is_within" "is_within" s_is_within a_is_within d_is_within
  C_is_within : Cf K mg "is_within" a_is_within d_is_within ["value", "low", "high"]
  a_is_row : Addr
  d_is_row : FuncData
  F_is_row : Fun K "is_row" "is_row" s_is_row a_is_row d_is_row
  C_is_row : Cf K mg "is_row" a_is_row d_is_row ["value", "many"]
  a_is_spot : Addr
  d_is_spot : FuncData
  F_is_spot : Fun K "is_spot" "is_spot" s_is_spot a_is_spot d_is_spot
  C_is_spot : Cf K mg "is_spot" a_is_spot d_is_spot ["value"]
  a_want_spot : Addr
  d_want_spot : FuncData
  F_want_spot : Fun K "want_spot" "want_spot" s_want_spot a_want_spot d_want_spot
  C_want_spot : Cf K mg "want_spot" a_want_spot d_want_spot ["value"]
  a_cross : Addr
  d_cross : FuncData
  F_cross : Fun K "cross" "cross" s_cross a_cross d_cross
  C_cross : Cf K mg "cross" a_cross d_cross ["way", "other"]
  a_way_of : Addr
  d_way_of : FuncData
  F_way_of : Fun K "way_of" "way_of" s_way_of a_way_of d_way_of
  C_way_of : Cf K mg "way_of" a_way_of d_way_of ["one", "other"]
  a_turn_of : Addr
  d_turn_of : FuncData
  F_turn_of : Fun K "turn_of" "turn_of" s_turn_of a_turn_of d_turn_of
  C_turn_of : Cf K mg "turn_of" a_turn_of d_turn_of ["one", "two", "three"]
  a_are_spots : Addr
  d_are_spots : FuncData
  F_are_spots : Fun K "are_spots" "are_spots" s_are_spots a_are_spots d_are_spots
  C_are_spots : Cf K mg "are_spots" a_are_spots d_are_spots ["value"]
  a_want_spots : Addr
  d_want_spots : FuncData
  F_want_spots : Fun K "want_spots" "want_spots" s_want_spots a_want_spots d_want_spots
  C_want_spots : Cf K mg "want_spots" a_want_spots d_want_spots ["value"]
  a_dot : Addr
  d_dot : FuncData
  F_dot : Fun K "dot" "dot" s_dot a_dot d_dot
  C_dot : Cf K mg "dot" a_dot d_dot ["way", "other"]
  a_is_between : Addr
  d_is_between : FuncData
  F_is_between : Fun K "is_between" "is_between" s_is_between a_is_between d_is_between
  C_is_between : Cf K mg "is_between" a_is_between d_is_between ["one", "other", "spot"]
  a_is_beside : Addr
  d_is_beside : FuncData
  F_is_beside : Fun K "is_beside" "is_beside" s_is_beside a_is_beside d_is_beside
  C_is_beside : Cf K mg "is_beside" a_is_beside d_is_beside ["one", "other", "three", "four"]
  a_do_meet : Addr
  d_do_meet : FuncData
  F_do_meet : Fun K "do_meet" "do_meet" s_do_meet a_do_meet d_do_meet
  C_do_meet : Cf K mg "do_meet" a_do_meet d_do_meet ["one", "other", "three", "four"]
  a_chain_of : Addr
  d_chain_of : FuncData
  F_chain_of : Fun K "chain_of" "chain_of" s_chain_of a_chain_of d_chain_of
  C_chain_of : Cf K mg "chain_of" a_chain_of d_chain_of ["spots"]
  a_hull_ring : Addr
  d_hull_ring : FuncData
  F_hull_ring : Fun K "hull_ring" "hull_ring" s_hull_ring a_hull_ring d_hull_ring
  C_hull_ring : Cf K mg "hull_ring" a_hull_ring d_hull_ring ["spots"]
  a_turn : Addr
  d_turn : FuncData
  F_turn : Fun K "turn" "turn" s_turn a_turn d_turn
  C_turn : Cf K mg "turn" a_turn d_turn ["spot", "second_spot", "third_spot"]
  a_hull : Addr
  d_hull : FuncData
  F_hull : Fun K "hull" "hull" s_hull a_hull d_hull
  C_hull : Cf K mg "hull" a_hull d_hull ["places"]
  a_have_common : Addr
  d_have_common : FuncData
  F_have_common : Fun K "have_common" "have_common" s_have_common a_have_common d_have_common
  C_have_common : Cf K mg "have_common" a_have_common d_have_common ["spot", "second_spot", "third_spot", "fourth_spot"]
  a_law_pot : Addr
  d_law_pot : FuncData
  F_law_pot : Fun K "_law_pot" "_law_pot" s_law_pot a_law_pot d_law_pot
  C_law_pot : Cf K mg "_law_pot" a_law_pot d_law_pot ["script", "k"]
  a_law_draw : Addr
  d_law_draw : FuncData
  F_law_draw : Fun K "_law_draw" "_law_draw" s_law_draw a_law_draw d_law_draw
  C_law_draw : Cf K mg "_law_draw" a_law_draw d_law_draw ["pot", "many"]
  a_law_pick : Addr
  d_law_pick : FuncData
  F_law_pick : Fun K "_law_pick" "_law_pick" s_law_pick a_law_pick d_law_pick
  C_law_pick : Cf K mg "_law_pick" a_law_pick d_law_pick ["pot", "some"]
  a_law_turn : Addr
  d_law_turn : FuncData
  F_law_turn : Fun K "_law_turn" "_law_turn" s_law_turn a_law_turn d_law_turn
  C_law_turn : Cf K mg "_law_turn" a_law_turn d_law_turn ["one", "two", "three"]
  a_law_on : Addr
  d_law_on : FuncData
  F_law_on : Fun K "_law_on" "_law_on" s_law_on a_law_on d_law_on
  C_law_on : Cf K mg "_law_on" a_law_on d_law_on ["one", "two", "spot"]
  a_law_spots : Addr
  d_law_spots : FuncData
  F_law_spots : Fun K "_law_spots" "_law_spots" s_law_spots a_law_spots d_law_spots
  C_law_spots : Cf K mg "_law_spots" a_law_spots d_law_spots ["pot", "many", "most"]
  a_law_is_held : Addr
  d_law_is_held : FuncData
  F_law_is_held : Fun K "_law_is_held" "_law_is_held" s_law_is_held a_law_is_held d_law_is_held
  C_law_is_held : Cf K mg "_law_is_held" a_law_is_held d_law_is_held ["spots", "spot"]
  a_law_hull_right : Addr
  d_law_hull_right : FuncData
  F_law_hull_right : Fun K "_law_hull_right" "_law_hull_right" s_law_hull_right a_law_hull_right d_law_hull_right
  C_law_hull_right : Cf K mg "_law_hull_right" a_law_hull_right d_law_hull_right ["pot"]
  a_law_common : Addr
  d_law_common : FuncData
  F_law_common : Fun K "_law_common" "_law_common" s_law_common a_law_common d_law_common
  C_law_common : Cf K mg "_law_common" a_law_common d_law_common ["one", "two", "three", "four"]
  a_law_four : Addr
  d_law_four : FuncData
  F_law_four : Fun K "_law_four" "_law_four" s_law_four a_law_four d_law_four
  C_law_four : Cf K mg "_law_four" a_law_four d_law_four ["pot"]
  a_law_lines_right : Addr
  d_law_lines_right : FuncData
  F_law_lines_right : Fun K "_law_lines_right" "_law_lines_right" s_law_lines_right a_law_lines_right d_law_lines_right
  C_law_lines_right : Cf K mg "_law_lines_right" a_law_lines_right d_law_lines_right ["pot"]
  a_law_heard : Addr
  d_law_heard : FuncData
  F_law_heard : Fun K "_law_heard" "_law_heard" s_law_heard a_law_heard d_law_heard
  C_law_heard : Cf K mg "_law_heard" a_law_heard d_law_heard ["call"]
  a_law_refused_right : Addr
  d_law_refused_right : FuncData
  c_law_refused_right : Addr
  P_law_refused_right : Addr
  F_law_refused_right : FunL K "_law_refused_right" "_law_refused_right" s_law_refused_right a_law_refused_right d_law_refused_right c_law_refused_right
  C_law_refused_right : Cf K mg "_law_refused_right" a_law_refused_right d_law_refused_right ["pot"]
  a_law : Addr
  d_law : FuncData
  F_law : Fun K "law" "law" s_law a_law d_law
  C_law : Cf K mg "law" a_law d_law ["script"]
  kb_hull_0_places : KB K d_hull ["places"] ["places"] 0 [0]
  kb_turn_0_third_spot_second_spot_spot : KB K d_turn ["spot", "second_spot", "third_spot"] ["third_spot", "second_spot", "spot"] 0 [2, 1, 0]
  kb_have_common_0_fourth_spot_third_spot_second_spot_spot : KB K d_have_common ["spot", "second_spot", "third_spot", "fourth_spot"] ["fourth_spot", "third_spot", "second_spot", "spot"] 0 [3, 2, 1, 0]
  l_0 : LamE (lt 0) (("_law_refused_right" : Str) ++ ".<locals>.") (defScope s_law_refused_right) le_0
  l_1 : LamE (lt 1) (("_law_refused_right" : Str) ++ ".<locals>.") (defScope s_law_refused_right) le_1
  l_2 : LamE (lt 2) (("_law_refused_right" : Str) ++ ".<locals>.") (defScope s_law_refused_right) le_2
  l_3 : LamE (lt 3) (("_law_refused_right" : Str) ++ ".<locals>.") (defScope s_law_refused_right) le_3
  l_4 : LamE (lt 4) (("_law_refused_right" : Str) ++ ".<locals>.") (defScope s_law_refused_right) le_4
  l_5 : LamE (lt 5) (("_law_refused_right" : Str) ++ ".<locals>.") (defScope s_law_refused_right) le_5
  l_6 : LamE (lt 6) (("_law_refused_right" : Str) ++ ".<locals>.") (defScope s_law_refused_right) le_6
  l_7 : LamE (lt 7) (("_law_refused_right" : Str) ++ ".<locals>.") (defScope s_law_refused_right) le_7
  sub : SubOk K lt isub
  x_InvalidPlaces : mg "InvalidPlaces" = some (.ref (lt 0).cls)
  x_InvalidSpot : mg "InvalidSpot" = some (.ref (lt 1).cls)
  x_WebError : mg "WebError" = some (.ref (lt 2).cls)
  ex : ∀ j, j < 3 → ExK K "value" (lt j).cls
  i_InvalidPlaces : Addr
  r_InvalidPlaces : RaK K mg "InvalidPlaces" "value" "value" (lt 0).cls i_InvalidPlaces
  i_InvalidSpot : Addr
  r_InvalidSpot : RaK K mg "InvalidSpot" "value" "value" (lt 1).cls i_InvalidSpot
  z_abs : mg "abs" = none
  z_all : mg "all" = none
  z_bool : mg "bool" = none
  z_divmod : mg "divmod" = none
  z_int : mg "int" = none
  z_isinstance : mg "isinstance" = none
  z_len : mg "len" = none
  z_max : mg "max" = none
  z_min : mg "min" = none
  z_range : mg "range" = none
  z_repr : mg "repr" = none
  z_set : mg "set" = none
  z_sorted : mg "sorted" = none
  z_tuple : mg "tuple" = none
  z_zip : mg "zip" = none
  g_LEAST_PLACES : ∃ t, mg "LEAST_PLACES" = some (.int (3) t)
  g_MOST : ∃ t, mg "MOST" = some (.int (999) t)
  g_MOST_PLACES : ∃ t, mg "MOST_PLACES" = some (.int (24) t)
structure Ty {K : PySem.W.Frag} {mg : Str → Option Value} {lt : Nat → LamI} (t : Tx K mg lt) (T : List (Addr × Str)) (base : Heap) : Prop where
  tb_law_refused_right : LamX.TabB base mg t.c_law_refused_right t.P_law_refused_right
  mem_law_refused_right : (t.P_law_refused_right, (("_law_refused_right" : Str) ++ ".<locals>.") ++ "<lambda>") ∈ T
  one_law_refused_right : ∀ q ∈ T, q.1 = t.P_law_refused_right → q.2 = (("_law_refused_right" : Str) ++ ".<locals>.") ++ "<lambda>"
section
variable {P : Program} {w : World} {K : PySem.W.Frag} {lt : Nat → LamI} {T : List (Addr × Str)} {mg : Str → Option Value} {base : Heap}
theorem ok_is_integer (t : Tx K mg lt) (y : Ty t T base) : FnD P w ⟨K, lt⟩ T mg base 1 t.a_is_integer t.d_is_integer ["value"] f_is_integer := fnD_mk (k := 0) t.F_is_integer sc_is_integer fun cdv A outer s H E B hgd hr => by
    have tk := takes_of (X := Bx P w K mg base ["value"] "is_integer" (defScope s_is_integer) t.a_is_integer cdv A outer s H E) rfl rfl rfl rfl
    have hp := passes_of (X := Bx P w K mg base ["value"] "is_integer" (defScope s_is_integer) t.a_is_integer cdv A outer s H E) rfl
    exact s_one (s_ret (d_and (x_isi .int "int" t.z_isinstance t.z_int bb_int (u 0)) (d_one (d_not (p_of (x_isi .bool "bool" t.z_isinstance t.z_bool bb_bool (u 0)))))))
theorem ok_is_within (t : Tx K mg lt) (y : Ty t T base) : FnD P w ⟨K, lt⟩ T mg base 2 t.a_is_within t.d_is_within ["value", "low", "high"] f_is_within := fnD_mk (k := 1) t.F_is_within sc_is_within fun cdv A outer s H E B hgd hr => by
    have tk := takes_of (X := Bx P w K mg base ["value", "low", "high"] "is_within" (defScope s_is_within) t.a_is_within cdv A outer s H E) rfl rfl rfl rfl
    have hp := passes_of (X := Bx P w K mg base ["value", "low", "high"] "is_within" (defScope s_is_within) t.a_is_within cdv A outer s H E) rfl
    exact s_one (s_ret (d_and (cl t.C_is_integer (ok_is_integer t y) hgd hr tk (a_cons (v 0) a_nil)) (d_one (d_chain o_le o_le (u 1) (u 0) (u 2)))))
theorem ok_is_row (t : Tx K mg lt) (y : Ty t T base) : FnD P w ⟨K, lt⟩ T mg base 1 t.a_is_row t.d_is_row ["value", "many"] f_is_row := fnD_mk (k := 0) t.F_is_row sc_is_row fun cdv A outer s H E B hgd hr => by
    have tk := takes_of (X := Bx P w K mg base ["value", "many"] "is_row" (defScope s_is_row) t.a_is_row cdv A outer s H E) rfl rfl rfl rfl
    have hp := passes_of (X := Bx P w K mg base ["value", "many"] "is_row" (defScope s_is_row) t.a_is_row cdv A outer s H E) rfl
    exact s_one (s_ret (d_and (x_isi .tuple "tuple" t.z_isinstance t.z_tuple bb_tuple (u 0)) (d_one (kD (o_eq (hu64_of hr)) (p_of (x_len t.z_len (u 0))) (u 1)))))
theorem ok_is_spot (t : Tx K mg lt) (y : Ty t T base) : FnD P w ⟨K, lt⟩ T mg base 3 t.a_is_spot t.d_is_spot ["value"] f_is_spot := fnD_mk (k := 2) t.F_is_spot sc_is_spot fun cdv A outer s H E B hgd hr => by
    have tk := takes_of (X := Bx P w K mg base ["value", "part"] "is_spot" (defScope s_is_spot) t.a_is_spot cdv A outer s H E) rfl rfl rfl rfl
    have hp := passes_of (X := Bx P w K mg base ["value", "part"] "is_spot" (defScope s_is_spot) t.a_is_spot cdv A outer s H E) rfl
    exact s_one (s_ret (d_and (cl t.C_is_row (ok_is_row t y) hgd hr tk (a_cons (v 0) (a_cons d_int a_nil))) (d_one (x_all t.z_all (p_of (d_frz (fcomp (own := [("part", 1)]) sc_is_spot.nd (i_seq (v 0)) (fun _ _ _ _ _ => cn 1 sc_is_spot.nd) (fun _ _ _ _ _ => ts_nil) (fun _ _ _ _ _ => cl t.C_is_within (ok_is_within t y) hgd hr takes0 (a_cons (v 1) (a_cons (d_un o_neg (p_of (gint t.g_MOST))) (a_cons ((gint t.g_MOST)) a_nil)))))))))))
theorem ok_want_spot (t : Tx K mg lt) (y : Ty t T base) : FnD P w ⟨K, lt⟩ T mg base 4 t.a_want_spot t.d_want_spot ["value"] f_want_spot := fnD_mk (k := 3) t.F_want_spot sc_want_spot fun cdv A outer s H E B hgd hr => by
    have tk := takes_of (X := Bx P w K mg base ["value"] "want_spot" (defScope s_want_spot) t.a_want_spot cdv A outer s H E) rfl rfl rfl rfl
    have hp := passes_of (X := Bx P w K mg base ["value"] "want_spot" (defScope s_want_spot) t.a_want_spot cdv A outer s H E) rfl
    exact s_cons (s_if (b_not (b_test (p_of (cl t.C_is_spot (ok_is_spot t y) hgd hr tk (a_cons (v 0) a_nil))))) (s_one (s_raise1 t.r_InvalidSpot hr tk (v 0))) s_nil)
      (s_one (s_ret (v 0)))
theorem ok_cross (t : Tx K mg lt) (y : Ty t T base) : FnD P w ⟨K, lt⟩ T mg base 1 t.a_cross t.d_cross ["way", "other"] f_cross := fnD_mk (k := 0) t.F_cross sc_cross fun cdv A outer s H E B hgd hr => by
    have tk := takes_of (X := Bx P w K mg base ["way", "other"] "cross" (defScope s_cross) t.a_cross cdv A outer s H E) rfl rfl rfl rfl
    have hp := passes_of (X := Bx P w K mg base ["way", "other"] "cross" (defScope s_cross) t.a_cross cdv A outer s H E) rfl
    exact s_one (s_ret (d_bin o_sub (p_of (d_bin o_rep (p_of (d_subs (u 0) (p_of d_int))) (p_of (d_subs (u 1) (p_of d_int))))) (p_of (d_bin o_rep (p_of (d_subs (u 0) (p_of d_int))) (p_of (d_subs (u 1) (p_of d_int)))))))
theorem ok_way_of (t : Tx K mg lt) (y : Ty t T base) : FnD P w ⟨K, lt⟩ T mg base 1 t.a_way_of t.d_way_of ["one", "other"] f_way_of := fnD_mk (k := 0) t.F_way_of sc_way_of fun cdv A outer s H E B hgd hr => by
    have tk := takes_of (X := Bx P w K mg base ["one", "other"] "way_of" (defScope s_way_of) t.a_way_of cdv A outer s H E) rfl rfl rfl rfl
    have hp := passes_of (X := Bx P w K mg base ["one", "other"] "way_of" (defScope s_way_of) t.a_way_of cdv A outer s H E) rfl
    exact s_one (s_ret (d_tup (a_cons (d_bin o_sub (p_of (d_subs (u 1) (p_of d_int))) (p_of (d_subs (u 0) (p_of d_int)))) (a_cons (d_bin o_sub (p_of (d_subs (u 1) (p_of d_int))) (p_of (d_subs (u 0) (p_of d_int)))) a_nil))))
theorem ok_turn_of (t : Tx K mg lt) (y : Ty t T base) : FnD P w ⟨K, lt⟩ T mg base 2 t.a_turn_of t.d_turn_of ["one", "two", "three"] f_turn_of := fnD_mk (k := 1) t.F_turn_of sc_turn_of fun cdv A outer s H E B hgd hr => by
    have tk := takes_of (X := Bx P w K mg base ["one", "two", "three"] "turn_of" (defScope s_turn_of) t.a_turn_of cdv A outer s H E) rfl rfl rfl rfl
    have hp := passes_of (X := Bx P w K mg base ["one", "two", "three"] "turn_of" (defScope s_turn_of) t.a_turn_of cdv A outer s H E) rfl
    exact s_one (s_ret (cl t.C_cross (ok_cross t y) hgd hr tk (a_cons (cl t.C_way_of (ok_way_of t y) hgd hr tk (a_cons (v 0) (a_cons (v 1) a_nil))) (a_cons (cl t.C_way_of (ok_way_of t y) hgd hr tk (a_cons (v 0) (a_cons (v 2) a_nil))) a_nil))))
theorem ok_are_spots (t : Tx K mg lt) (y : Ty t T base) : FnD P w ⟨K, lt⟩ T mg base 4 t.a_are_spots t.d_are_spots ["value"] f_are_spots := fnD_mk (k := 3) t.F_are_spots sc_are_spots fun cdv A outer s H E B hgd hr => by
    have tk := takes_of (X := Bx P w K mg base ["value", "spot"] "are_spots" (defScope s_are_spots) t.a_are_spots cdv A outer s H E) rfl rfl rfl rfl
    have hp := passes_of (X := Bx P w K mg base ["value", "spot"] "are_spots" (defScope s_are_spots) t.a_are_spots cdv A outer s H E) rfl
    exact s_cons (s_if ((b_or (b_not (b_test (p_of (x_isi .tuple "tuple" t.z_isinstance t.z_tuple bb_tuple (uc 0))))) (b_or1 (b_not (b_chain o_le o_le (p_of (gint t.g_LEAST_PLACES)) (p_of (x_len t.z_len (uc 0))) (p_of (gint t.g_MOST_PLACES)))))).pt) (s_one (s_ret d_bl)) s_nil)
      (s_cons (s_if ((b_or (b_not (b_test (p_of (x_all t.z_all (p_of (d_frz (fcomp (own := [("spot", 1)]) sc_are_spots.nd (i_seq (vc 0)) (fun _ _ _ _ _ => cn 1 sc_are_spots.nd) (fun _ _ _ _ _ => ts_nil) (fun _ _ _ _ _ => cl t.C_is_spot (ok_is_spot t y) hgd hr takes0 (a_cons (v 1) a_nil))))))))) (b_or1 (kB o_lt (p_of (x_lenset t.z_len t.z_set (hu65_of hr) (uc 0))) (p_of (x_len t.z_len (uc 0)))))).pt) (s_one (s_ret d_bl)) s_nil)
      (s_one (s_ret (d_not (p_of (x_all t.z_all (p_of (d_frz (fcomp (own := [("spot", 1)]) sc_are_spots.nd (i_seq (vc 0)) (fun _ _ _ _ _ => cn 1 sc_are_spots.nd) (fun _ _ _ _ _ => ts_nil) (fun _ _ _ _ _ => kD (o_eq (hu64_of hr)) (p_of (cl t.C_turn_of (ok_turn_of t y) hgd hr takes0 (a_cons (d_subs (uc 0) (p_of d_int)) (a_cons (d_subs (uc 0) (p_of d_int)) (a_cons (v 1) a_nil))))) (p_of d_int)))))))))))
theorem ok_want_spots (t : Tx K mg lt) (y : Ty t T base) : FnD P w ⟨K, lt⟩ T mg base 5 t.a_want_spots t.d_want_spots ["value"] f_want_spots := fnD_mk (k := 4) t.F_want_spots sc_want_spots fun cdv A outer s H E B hgd hr => by
    have tk := takes_of (X := Bx P w K mg base ["value"] "want_spots" (defScope s_want_spots) t.a_want_spots cdv A outer s H E) rfl rfl rfl rfl
    have hp := passes_of (X := Bx P w K mg base ["value"] "want_spots" (defScope s_want_spots) t.a_want_spots cdv A outer s H E) rfl
    exact s_one (s_if (b_not (b_test (p_of (cl t.C_are_spots (ok_are_spots t y) hgd hr tk (a_cons (v 0) a_nil))))) (s_one (s_raise1 t.r_InvalidPlaces hr tk (v 0))) s_nil)
theorem ok_dot (t : Tx K mg lt) (y : Ty t T base) : FnD P w ⟨K, lt⟩ T mg base 1 t.a_dot t.d_dot ["way", "other"] f_dot := fnD_mk (k := 0) t.F_dot sc_dot fun cdv A outer s H E B hgd hr => by
    have tk := takes_of (X := Bx P w K mg base ["way", "other"] "dot" (defScope s_dot) t.a_dot cdv A outer s H E) rfl rfl rfl rfl
    have hp := passes_of (X := Bx P w K mg base ["way", "other"] "dot" (defScope s_dot) t.a_dot cdv A outer s H E) rfl
    exact s_one (s_ret (d_bin o_cat (p_of (d_bin o_rep (p_of (d_subs (u 0) (p_of d_int))) (p_of (d_subs (u 1) (p_of d_int))))) (p_of (d_bin o_rep (p_of (d_subs (u 0) (p_of d_int))) (p_of (d_subs (u 1) (p_of d_int)))))))
theorem ok_is_between (t : Tx K mg lt) (y : Ty t T base) : FnD P w ⟨K, lt⟩ T mg base 3 t.a_is_between t.d_is_between ["one", "other", "spot"] f_is_between := fnD_mk (k := 2) t.F_is_between sc_is_between fun cdv A outer s H E B hgd hr => by
    have tk := takes_of (X := Bx P w K mg base ["one", "other", "spot"] "is_between" (defScope s_is_between) t.a_is_between cdv A outer s H E) rfl rfl rfl rfl
    have hp := passes_of (X := Bx P w K mg base ["one", "other", "spot"] "is_between" (defScope s_is_between) t.a_is_between cdv A outer s H E) rfl
    exact s_cons (s_if (kB (o_ne (hu64_of hr)) (p_of (cl t.C_turn_of (ok_turn_of t y) hgd hr tk (a_cons (v 0) (a_cons (v 1) (a_cons (v 2) a_nil))))) (p_of d_int)) (s_one (s_ret d_bl)) s_nil)
      (s_one (s_ret (kD o_le (p_of (cl t.C_dot (ok_dot t y) hgd hr tk (a_cons (cl t.C_way_of (ok_way_of t y) hgd hr tk (a_cons (v 2) (a_cons (v 0) a_nil))) (a_cons (cl t.C_way_of (ok_way_of t y) hgd hr tk (a_cons (v 2) (a_cons (v 1) a_nil))) a_nil)))) (p_of d_int))))
theorem ok_is_beside (t : Tx K mg lt) (y : Ty t T base) : FnD P w ⟨K, lt⟩ T mg base 3 t.a_is_beside t.d_is_beside ["one", "other", "three", "four"] f_is_beside := fnD_mk (k := 2) t.F_is_beside sc_is_beside fun cdv A outer s H E B hgd hr => by
    have tk := takes_of (X := Bx P w K mg base ["one", "other", "three", "four", "near", "far"] "is_beside" (defScope s_is_beside) t.a_is_beside cdv A outer s H E) rfl rfl rfl rfl
    have hp := passes_of (X := Bx P w K mg base ["one", "other", "three", "four", "near", "far"] "is_beside" (defScope s_is_beside) t.a_is_beside cdv A outer s H E) rfl
    exact s_cons (s_par2 (i := 4) (j := 5) rfl sc_is_beside.nd (by kernel_rfl) (by kernel_rfl) (by decide) (by kernel_rfl) (by kernel_rfl) (a_cons (cl t.C_turn_of (ok_turn_of t y) hgd hr tk (a_cons (v 2) (a_cons (v 3) (a_cons (v 0) a_nil)))) (a_cons (cl t.C_turn_of (ok_turn_of t y) hgd hr tk (a_cons (v 2) (a_cons (v 3) (a_cons (v 1) a_nil)))) a_nil)) (by rfl))
      (s_one (s_ret (d_or (d_chain o_lt o_lt (u 4) (p_of d_int) (u 5)) (d_one (d_chain o_lt o_lt (u 5) (p_of d_int) (u 4))))))
theorem ok_do_meet (t : Tx K mg lt) (y : Ty t T base) : FnD P w ⟨K, lt⟩ T mg base 4 t.a_do_meet t.d_do_meet ["one", "other", "three", "four"] f_do_meet := fnD_mk (k := 3) t.F_do_meet sc_do_meet fun cdv A outer s H E B hgd hr => by
    have tk := takes_of (X := Bx P w K mg base ["one", "other", "three", "four"] "do_meet" (defScope s_do_meet) t.a_do_meet cdv A outer s H E) rfl rfl rfl rfl
    have hp := passes_of (X := Bx P w K mg base ["one", "other", "three", "four"] "do_meet" (defScope s_do_meet) t.a_do_meet cdv A outer s H E) rfl
    exact s_cons (s_if ((b_and (b_test (p_of (cl t.C_is_beside (ok_is_beside t y) hgd hr tk (a_cons (v 0) (a_cons (v 1) (a_cons (v 2) (a_cons (v 3) a_nil))))))) (b_and1 (b_test (p_of (cl t.C_is_beside (ok_is_beside t y) hgd hr tk (a_cons (v 2) (a_cons (v 3) (a_cons (v 0) (a_cons (v 1) a_nil))))))))).pt) (s_one (s_ret d_bl)) s_nil)
      (s_cons (s_if ((b_or (b_test (p_of (cl t.C_is_between (ok_is_between t y) hgd hr tk (a_cons (v 0) (a_cons (v 1) (a_cons (v 2) a_nil)))))) (b_or1 (b_test (p_of (cl t.C_is_between (ok_is_between t y) hgd hr tk (a_cons (v 0) (a_cons (v 1) (a_cons (v 3) a_nil)))))))).pt) (s_one (s_ret d_bl)) s_nil)
      (s_one (s_ret (d_or (cl t.C_is_between (ok_is_between t y) hgd hr tk (a_cons (v 2) (a_cons (v 3) (a_cons (v 0) a_nil)))) (d_one (cl t.C_is_between (ok_is_between t y) hgd hr tk (a_cons (v 2) (a_cons (v 3) (a_cons (v 1) a_nil)))))))))
theorem ok_chain_of (t : Tx K mg lt) (y : Ty t T base) : FnD P w ⟨K, lt⟩ T mg base 3 t.a_chain_of t.d_chain_of ["spots"] f_chain_of := fnD_mk (k := 2) t.F_chain_of sc_chain_of fun cdv A outer s H E B hgd hr => by
    have tk := takes_of (X := Bx P w K mg base ["spots", "found", "spot"] "chain_of" (defScope s_chain_of) t.a_chain_of cdv A outer s H E) rfl rfl rfl rfl
    have hp := passes_of (X := Bx P w K mg base ["spots", "found", "spot"] "chain_of" (defScope s_chain_of) t.a_chain_of cdv A outer s H E) rfl
    exact s_cons (sown 1 sc_chain_of.nd (f_lst a_nil))
      (s_cons (s_for hp rfl (i_seq (v 0)) (gn 2 sc_chain_of.nd) (s_cons (s_while hp ((b_and (kB o_gt (p_of (x_len t.z_len (u 1))) (p_of d_int)) (b_and1 (kB o_le (p_of (cl t.C_turn_of (ok_turn_of t y) hgd hr tk (a_cons (d_subs (u 1) (p_of (d_un o_neg (p_of d_int)))) (a_cons (d_subs (u 1) (p_of (d_un o_neg (p_of d_int)))) (a_cons (v 2) a_nil))))) (p_of d_int)))).pt) (s_one (spop 1)))
      (s_one (sapp 1 (v 2)))))
      (s_one (s_ret (d_slice (u 1) po_no (po_so (p_of (d_un o_neg (p_of d_int))))))))
theorem ok_hull_ring (t : Tx K mg lt) (y : Ty t T base) : FnD P w ⟨K, lt⟩ T mg base 4 t.a_hull_ring t.d_hull_ring ["spots"] f_hull_ring := fnD_mk (k := 3) t.F_hull_ring sc_hull_ring fun cdv A outer s H E B hgd hr => by
    have tk := takes_of (X := Bx P w K mg base ["spots", "some"] "hull_ring" (defScope s_hull_ring) t.a_hull_ring cdv A outer s H E) rfl rfl rfl rfl
    have hp := passes_of (X := Bx P w K mg base ["spots", "some"] "hull_ring" (defScope s_hull_ring) t.a_hull_ring cdv A outer s H E) rfl
    exact s_cons (sset 1 sc_hull_ring.nd (x_sorted t.z_sorted (u 0)))
      (s_one (s_ret (d_bin o_cat (p_of (cl t.C_chain_of (ok_chain_of t y) hgd hr tk (a_cons (v 1) a_nil))) (p_of (cl t.C_chain_of (ok_chain_of t y) hgd hr tk (a_cons (d_revA (u 1)) a_nil))))))
theorem ok_turn (t : Tx K mg lt) (y : Ty t T base) : FnD P w ⟨K, lt⟩ T mg base 5 t.a_turn t.d_turn ["spot", "second_spot", "third_spot"] f_turn := fnD_mk (k := 4) t.F_turn sc_turn fun cdv A outer s H E B hgd hr => by
    have tk := takes_of (X := Bx P w K mg base ["spot", "second_spot", "third_spot"] "turn" (defScope s_turn) t.a_turn cdv A outer s H E) rfl rfl rfl rfl
    have hp := passes_of (X := Bx P w K mg base ["spot", "second_spot", "third_spot"] "turn" (defScope s_turn) t.a_turn cdv A outer s H E) rfl
    exact s_cons (s_expr (cl t.C_want_spot (ok_want_spot t y) hgd hr tk (a_cons (v 0) a_nil)))
      (s_cons (s_expr (cl t.C_want_spot (ok_want_spot t y) hgd hr tk (a_cons (v 1) a_nil)))
      (s_one (s_ret (cl t.C_turn_of (ok_turn_of t y) hgd hr tk (a_cons (v 0) (a_cons (v 1) (a_cons (cl t.C_want_spot (ok_want_spot t y) hgd hr tk (a_cons (v 2) a_nil)) a_nil)))))))
theorem ok_hull (t : Tx K mg lt) (y : Ty t T base) : FnD P w ⟨K, lt⟩ T mg base 6 t.a_hull t.d_hull ["places"] f_hull := fnD_mk (k := 5) t.F_hull sc_hull fun cdv A outer s H E B hgd hr => by
    have tk := takes_of (X := Bx P w K mg base ["places"] "hull" (defScope s_hull) t.a_hull cdv A outer s H E) rfl rfl rfl rfl
    have hp := passes_of (X := Bx P w K mg base ["places"] "hull" (defScope s_hull) t.a_hull cdv A outer s H E) rfl
    exact s_cons (s_expr (cl t.C_want_spots (ok_want_spots t y) hgd hr tk (a_cons (v 0) a_nil)))
      (s_one (s_ret (x_tuple t.z_tuple (p_of (cl t.C_hull_ring (ok_hull_ring t y) hgd hr tk (a_cons (v 0) a_nil))))))
theorem ok_have_common (t : Tx K mg lt) (y : Ty t T base) : FnD P w ⟨K, lt⟩ T mg base 5 t.a_have_common t.d_have_common ["spot", "second_spot", "third_spot", "fourth_spot"] f_have_common := fnD_mk (k := 4) t.F_have_common sc_have_common fun cdv A outer s H E B hgd hr => by
    have tk := takes_of (X := Bx P w K mg base ["spot", "second_spot", "third_spot", "fourth_spot", "one"] "have_common" (defScope s_have_common) t.a_have_common cdv A outer s H E) rfl rfl rfl rfl
    have hp := passes_of (X := Bx P w K mg base ["spot", "second_spot", "third_spot", "fourth_spot", "one"] "have_common" (defScope s_have_common) t.a_have_common cdv A outer s H E) rfl
    exact s_cons (s_for hp rfl (i_seq (d_tup (a_cons (v 0) (a_cons (v 1) (a_cons (v 2) (a_cons (v 3) a_nil)))))) (gn 4 sc_have_common.nd) (s_one (s_expr (cl t.C_want_spot (ok_want_spot t y) hgd hr tk (a_cons (v 4) a_nil)))))
      (s_one (s_ret (cl t.C_do_meet (ok_do_meet t y) hgd hr tk (a_cons (v 0) (a_cons (v 1) (a_cons (v 2) (a_cons (v 3) a_nil)))))))
theorem ok_law_pot (t : Tx K mg lt) (y : Ty t T base) : FnD P w ⟨K, lt⟩ T mg base 1 t.a_law_pot t.d_law_pot ["script", "k"] f_law_pot := fnD_mk (k := 0) t.F_law_pot sc_law_pot fun cdv A outer s H E B hgd hr => by
    have tk := takes_of (X := Bx P w K mg base ["script", "k", "cell"] "_law_pot" (defScope s_law_pot) t.a_law_pot cdv A outer s H E) rfl rfl rfl rfl
    have hp := passes_of (X := Bx P w K mg base ["script", "k", "cell"] "_law_pot" (defScope s_law_pot) t.a_law_pot cdv A outer s H E) rfl
    exact s_cons (sset 2 sc_law_pot.nd (d_bin o_cat (p_of (d_bin o_rep (p_of d_int) (u 1))) (p_of d_int)))
      (s_cons (s_if (kB o_lt (u 1) (p_of (x_len t.z_len (u 0)))) (s_one (sset 2 sc_law_pot.nd (x_abs t.z_abs (p_of (d_subs (u 0) (u 1)))))) s_nil)
      (s_one (s_ret (d_ref (f_lst (a_cons (x_max t.z_max (p_of d_int) (p_of (d_bin o_sub (u 2) (p_of (d_bin o_pow (p_of d_int) (p_of d_int)))))) (a_cons (d_bin o_cat (p_of (d_bin o_mod (p_of (x_int t.z_int (p_of (d_bin o_cat (p_of (d_bin o_cat (p_of (d_bin o_rep (p_of (d_bin o_mod (p_of (x_int t.z_int (u 2))) (p_of d_int))) (p_of d_int))) (p_of (d_bin o_rep (p_of d_int) (u 1))))) (p_of d_int))))) (p_of d_int))) (p_of d_int)) a_nil)))))))
theorem ok_law_draw (t : Tx K mg lt) (y : Ty t T base) : FnD P w ⟨K, lt⟩ T mg base 1 t.a_law_draw t.d_law_draw ["pot", "many"] f_law_draw := fnD_mk (k := 0) t.F_law_draw sc_law_draw fun cdv A outer s H E B hgd hr => by
    have tk := takes_of (X := Bx P w K mg base ["pot", "many", "digit"] "_law_draw" (defScope s_law_draw) t.a_law_draw cdv A outer s H E) rfl rfl rfl rfl
    have hp := passes_of (X := Bx P w K mg base ["pot", "many", "digit"] "_law_draw" (defScope s_law_draw) t.a_law_draw cdv A outer s H E) rfl
    exact s_cons (s_if (kB o_gt (p_of (d_subs (u 0) (p_of d_int))) (p_of d_int)) (s_cons (s_asg (x_divmod t.z_divmod (p_of (d_subs (u 0) (p_of d_int))) (u 1)) (g_tup (n := 2) rfl (gs_cons (g_sub (u 0) (p_of d_int)) (gs_cons (gn 2 sc_law_draw.nd) gs_nil))))
      (s_one (s_ret (v 2)))) s_nil)
      (s_cons (s_asg (d_bin o_mod (p_of (x_int t.z_int (p_of (d_bin o_cat (p_of (d_bin o_rep (p_of (d_subs (u 0) (p_of d_int))) (p_of d_int))) (p_of d_int))))) (p_of d_int)) (g_sub (u 0) (p_of d_int)))
      (s_one (s_ret (d_bin o_mod (p_of (x_int t.z_int (p_of (d_bin o_fdiv (p_of (d_bin o_mod (p_of (x_int t.z_int (p_of (d_bin o_rep (p_of (d_subs (u 0) (p_of d_int))) (p_of (d_subs (u 0) (p_of d_int))))))) (p_of d_int))) (p_of d_int))))) (u 1)))))
theorem ok_law_pick (t : Tx K mg lt) (y : Ty t T base) : FnD P w ⟨K, lt⟩ T mg base 2 t.a_law_pick t.d_law_pick ["pot", "some"] f_law_pick := fnD_mk (k := 1) t.F_law_pick sc_law_pick fun cdv A outer s H E B hgd hr => by
    have tk := takes_of (X := Bx P w K mg base ["pot", "some"] "_law_pick" (defScope s_law_pick) t.a_law_pick cdv A outer s H E) rfl rfl rfl rfl
    have hp := passes_of (X := Bx P w K mg base ["pot", "some"] "_law_pick" (defScope s_law_pick) t.a_law_pick cdv A outer s H E) rfl
    exact s_one (s_ret (d_subs (u 1) (p_of (cl t.C_law_draw (ok_law_draw t y) hgd hr tk (a_cons (v 0) (a_cons (x_len t.z_len (u 1)) a_nil))))))
theorem ok_law_turn (t : Tx K mg lt) (y : Ty t T base) : FnD P w ⟨K, lt⟩ T mg base 1 t.a_law_turn t.d_law_turn ["one", "two", "three"] f_law_turn := fnD_mk (k := 0) t.F_law_turn sc_law_turn fun cdv A outer s H E B hgd hr => by
    have tk := takes_of (X := Bx P w K mg base ["one", "two", "three"] "_law_turn" (defScope s_law_turn) t.a_law_turn cdv A outer s H E) rfl rfl rfl rfl
    have hp := passes_of (X := Bx P w K mg base ["one", "two", "three"] "_law_turn" (defScope s_law_turn) t.a_law_turn cdv A outer s H E) rfl
    exact s_one (s_ret (d_bin o_sub (p_of (d_bin o_rep (p_of (d_bin o_sub (p_of (d_subs (u 1) (p_of d_int))) (p_of (d_subs (u 0) (p_of d_int))))) (p_of (d_bin o_sub (p_of (d_subs (u 2) (p_of d_int))) (p_of (d_subs (u 0) (p_of d_int))))))) (p_of (d_bin o_rep (p_of (d_bin o_sub (p_of (d_subs (u 1) (p_of d_int))) (p_of (d_subs (u 0) (p_of d_int))))) (p_of (d_bin o_sub (p_of (d_subs (u 2) (p_of d_int))) (p_of (d_subs (u 0) (p_of d_int)))))))))
theorem ok_law_on (t : Tx K mg lt) (y : Ty t T base) : FnD P w ⟨K, lt⟩ T mg base 2 t.a_law_on t.d_law_on ["one", "two", "spot"] f_law_on := fnD_mk (k := 1) t.F_law_on sc_law_on fun cdv A outer s H E B hgd hr => by
    have tk := takes_of (X := Bx P w K mg base ["one", "two", "spot"] "_law_on" (defScope s_law_on) t.a_law_on cdv A outer s H E) rfl rfl rfl rfl
    have hp := passes_of (X := Bx P w K mg base ["one", "two", "spot"] "_law_on" (defScope s_law_on) t.a_law_on cdv A outer s H E) rfl
    exact s_cons (s_if (kB (o_ne (hu64_of hr)) (p_of (cl t.C_law_turn (ok_law_turn t y) hgd hr tk (a_cons (v 0) (a_cons (v 1) (a_cons (v 2) a_nil))))) (p_of d_int)) (s_one (s_ret d_bl)) s_nil)
      (s_one (s_ret (d_and (d_chain o_le o_le (p_of (x_min t.z_min (p_of (d_subs (u 0) (p_of d_int))) (p_of (d_subs (u 1) (p_of d_int))))) (p_of (d_subs (u 2) (p_of d_int))) (p_of (x_max t.z_max (p_of (d_subs (u 0) (p_of d_int))) (p_of (d_subs (u 1) (p_of d_int)))))) (d_one (d_chain o_le o_le (p_of (x_min t.z_min (p_of (d_subs (u 0) (p_of d_int))) (p_of (d_subs (u 1) (p_of d_int))))) (p_of (d_subs (u 2) (p_of d_int))) (p_of (x_max t.z_max (p_of (d_subs (u 0) (p_of d_int))) (p_of (d_subs (u 1) (p_of d_int))))))))))
theorem ok_law_spots (t : Tx K mg lt) (y : Ty t T base) : FnD P w ⟨K, lt⟩ T mg base 2 t.a_law_spots t.d_law_spots ["pot", "many", "most"] f_law_spots := fnD_mk (k := 1) t.F_law_spots sc_law_spots fun cdv A outer s H E B hgd hr => by
    have tk := takes_of (X := Bx P w K mg base ["pot", "many", "most", "found", "step", "spot"] "_law_spots" (defScope s_law_spots) t.a_law_spots cdv A outer s H E) rfl rfl rfl rfl
    have hp := passes_of (X := Bx P w K mg base ["pot", "many", "most", "found", "step", "spot"] "_law_spots" (defScope s_law_spots) t.a_law_spots cdv A outer s H E) rfl
    exact s_cons (sown 3 sc_law_spots.nd (f_lst a_nil))
      (s_cons (s_for hp rfl (i_range1 (by unfold Gl; kernel_rfl) t.z_range (a_cons (v 1) a_nil)) (gn 4 sc_law_spots.nd) (s_cons (sset 5 sc_law_spots.nd (d_tup (a_cons (d_bin o_sub (p_of (cl t.C_law_draw (ok_law_draw t y) hgd hr tk (a_cons (v 0) (a_cons (d_bin o_cat (p_of (d_bin o_rep (p_of d_int) (u 2))) (p_of d_int)) a_nil)))) (u 2)) (a_cons (d_bin o_sub (p_of (cl t.C_law_draw (ok_law_draw t y) hgd hr tk (a_cons (v 0) (a_cons (d_bin o_cat (p_of (d_bin o_rep (p_of d_int) (u 2))) (p_of d_int)) a_nil)))) (u 2)) a_nil))))
      (s_one (s_if (kB (o_nin (hu65_of hr)) (u 5) (u 3)) (s_one (sapp 3 (v 5))) s_nil))))
      (s_one (s_ret (v 3))))
theorem ok_law_is_held (t : Tx K mg lt) (y : Ty t T base) : FnD P w ⟨K, lt⟩ T mg base 3 t.a_law_is_held t.d_law_is_held ["spots", "spot"] f_law_is_held := fnD_mk (k := 2) t.F_law_is_held sc_law_is_held fun cdv A outer s H E B hgd hr => by
    have tk := takes_of (X := Bx P w K mg base ["spots", "spot", "others", "one", "two", "three", "turns", "other"] "_law_is_held" (defScope s_law_is_held) t.a_law_is_held cdv A outer s H E) rfl rfl rfl rfl
    have hp := passes_of (X := Bx P w K mg base ["spots", "spot", "others", "one", "two", "three", "turns", "other"] "_law_is_held" (defScope s_law_is_held) t.a_law_is_held cdv A outer s H E) rfl
    exact s_cons (scomp 2 (own := [("other", 7)]) sc_law_is_held.nd (i_seq (v 0)) (fun _ _ _ _ _ => cn 7 sc_law_is_held.nd) (fun _ _ _ _ _ => ts_one (kB (o_ne (hu64_of hr)) (u 7) (uc 1))) (fun _ _ _ _ _ => v 7))
      (s_cons (s_for hp rfl (i_seq (v 2)) (gn 3 sc_law_is_held.nd) (s_one (s_for hp rfl (i_seq (v 2)) (gn 4 sc_law_is_held.nd) (s_cons (s_if ((b_and (kB (o_ne (hu64_of hr)) (u 3) (u 4)) (b_and1 (b_test (p_of (cl t.C_law_on (ok_law_on t y) hgd hr tk (a_cons (v 3) (a_cons (v 4) (a_cons (vc 1) a_nil)))))))).pt) (s_one (s_ret d_bl)) s_nil)
      (s_one (s_for hp rfl (i_seq (v 2)) (gn 5 sc_law_is_held.nd) (s_cons (sset 6 sc_law_is_held.nd (d_frz (f_lst (a_cons (cl t.C_law_turn (ok_law_turn t y) hgd hr tk (a_cons (v 3) (a_cons (v 4) (a_cons (vc 1) a_nil)))) (a_cons (cl t.C_law_turn (ok_law_turn t y) hgd hr tk (a_cons (v 4) (a_cons (v 5) (a_cons (vc 1) a_nil)))) (a_cons (cl t.C_law_turn (ok_law_turn t y) hgd hr tk (a_cons (v 5) (a_cons (v 3) (a_cons (vc 1) a_nil)))) a_nil))))))
      (s_one (s_if ((b_and (kB o_gt (p_of (cl t.C_law_turn (ok_law_turn t y) hgd hr tk (a_cons (v 3) (a_cons (v 4) (a_cons (v 5) a_nil))))) (p_of d_int)) (b_and1 (kB o_ge (p_of (x_minL t.z_min (u 6))) (p_of d_int)))).pt) (s_one (s_ret d_bl)) s_nil)))))))))
      (s_one (s_ret d_bl)))
theorem ok_law_hull_right (t : Tx K mg lt) (y : Ty t T base) : FnD P w ⟨K, lt⟩ T mg base 7 t.a_law_hull_right t.d_law_hull_right ["pot"] f_law_hull_right := fnD_mk (k := 6) t.F_law_hull_right sc_law_hull_right fun cdv A outer s H E B hgd hr => by
    have tk := takes_of (X := Bx P w K mg base ["pot", "spots", "told", "e", "ring", "due", "turns", "one", "two", "spot", "three"] "_law_hull_right" (defScope s_law_hull_right) t.a_law_hull_right cdv A outer s H E) rfl rfl rfl rfl
    have hp := passes_of (X := Bx P w K mg base ["pot", "spots", "told", "e", "ring", "due", "turns", "one", "two", "spot", "three"] "_law_hull_right" (defScope s_law_hull_right) t.a_law_hull_right cdv A outer s H E) rfl
    exact s_cons (ssetc 1 sc_law_hull_right.nd (cl t.C_law_spots (ok_law_spots t y) hgd hr tk (a_cons (v 0) (a_cons (d_bin o_cat (p_of d_int) (p_of (cl t.C_law_draw (ok_law_draw t y) hgd hr tk (a_cons (v 0) (a_cons d_int a_nil))))) (a_cons (cl t.C_law_pick (ok_law_pick t y) hgd hr tk (a_cons (v 0) (a_cons (d_frz (f_lst (a_cons d_int (a_cons d_int (a_cons d_int a_nil))))) a_nil))) a_nil)))))
      (s_cons (sset 2 sc_law_hull_right.nd d_non)
      (s_cons (s_if ((b_or (kB o_lt (p_of (x_len t.z_len (uc 1))) (p_of d_int)) (b_or1 (kB (o_eq (hu64_of hr)) (p_of (d_frz (fcomp (own := [("spot", 9)]) sc_law_hull_right.nd (i_seq (vc 1)) (fun _ _ _ _ _ => cn 9 sc_law_hull_right.nd) (fun _ _ _ _ _ => ts_one (kB (o_ne (hu64_of hr)) (p_of (cl t.C_law_turn (ok_law_turn t y) hgd hr takes0 (a_cons (d_subs (uc 1) (p_of d_int)) (a_cons (d_subs (uc 1) (p_of d_int)) (a_cons (v 9) a_nil))))) (p_of d_int))) (fun _ _ _ _ _ => v 9)))) (p_of (d_frz (f_lst a_nil)))))).pt) (s_cons (s_try t.sub rfl rfl rfl sc_law_hull_right.nd tk (fun U pn xe tk hp => s_one (sset 2 sc_law_hull_right.nd (cl t.C_hull (ok_hull t y) hgd hr tk (a_cons (x_tuple t.z_tuple (uc 1)) a_nil)))) (.named (k := 3) (i := 0) (by kernel_rfl) (by kernel_rfl) (names_mk t.x_InvalidPlaces) (fun q ob cls d pn hz hf => s_one (sset 2 sc_law_hull_right.nd (x_repr t.z_repr hgd ((hu64_of hr :)) (p_of (x_excf rfl hz hf t.ex))))) (.nil)))
      (s_one (s_ret (kD (o_eq (hu64_of hr)) (u 2) (p_of (x_repr t.z_repr hgd (hu64_of hr) (p_of (x_tuple t.z_tuple (uc 1))))))))) s_nil)
      (s_cons (sset 4 sc_law_hull_right.nd (cl t.C_hull (ok_hull t y) hgd hr tk (a_cons (x_tuple t.z_tuple (uc 1)) a_nil)))
      (s_cons (sset 5 sc_law_hull_right.nd (x_sorted t.z_sorted (p_of (d_frz (fcomp (own := [("spot", 9)]) sc_law_hull_right.nd (i_seq (vc 1)) (fun _ _ _ _ _ => cn 9 sc_law_hull_right.nd) (fun _ _ _ _ _ => ts_one (b_not (b_test (p_of (cl t.C_law_is_held (ok_law_is_held t y) hgd hr takes0 (a_cons (vc 1) (a_cons (v 9) a_nil))))))) (fun _ _ _ _ _ => v 9))))))
      (s_cons (s_if ((b_or (b_not (b_test (p_of (x_isi .tuple "tuple" t.z_isinstance t.z_tuple bb_tuple (u 4))))) (b_or (kB (o_ne (hu64_of hr)) (p_of (x_sorted t.z_sorted (u 4))) (u 5)) (b_or (kB (o_ne (hu64_of hr)) (p_of (d_subs (u 4) (p_of d_int))) (p_of (d_subs (u 5) (p_of d_int)))) (b_or1 (kB (o_ne (hu64_of hr)) (p_of (clK0 t.C_hull (ok_hull t y) hgd hr tk t.kb_hull_0_places (k_cons (x_tuple t.z_tuple (uc 1)) k_nil))) (u 4)))))).pt) (s_one (s_ret d_bl)) s_nil)
      (s_cons (scomp 6 (own := [("one", 7), ("two", 8), ("three", 10)]) sc_law_hull_right.nd (i_zip (by unfold Gl; kernel_rfl) t.z_zip (a_cons (v 4) (a_cons (d_bin o_cat (p_of (d_slice (u 4) (po_so (p_of d_int)) po_no)) (p_of (d_slice (u 4) po_no (po_so (p_of d_int))))) (a_cons (d_bin o_cat (p_of (d_slice (u 4) (po_so (p_of d_int)) po_no)) (p_of (d_slice (u 4) po_no (po_so (p_of d_int))))) a_nil)))) (fun _ _ _ _ _ => c_tup (n := 3) rfl (cs_cons (cn 7 sc_law_hull_right.nd) (cs_cons (cn 8 sc_law_hull_right.nd) (cs_cons (cn 10 sc_law_hull_right.nd) cs_nil)))) (fun _ _ _ _ _ => ts_nil) (fun _ _ _ _ _ => cl t.C_law_turn (ok_law_turn t y) hgd hr takes0 (a_cons (v 7) (a_cons (v 8) (a_cons (v 10) a_nil)))))
      (s_cons (s_for hp rfl (i_zip (by unfold Gl; kernel_rfl) t.z_zip (a_cons (v 4) (a_cons (d_bin o_cat (p_of (d_slice (u 4) (po_so (p_of d_int)) po_no)) (p_of (d_slice (u 4) po_no (po_so (p_of d_int))))) a_nil))) (g_tup (n := 2) rfl (gs_cons (gnc 7 sc_law_hull_right.nd) (gs_cons (gnc 8 sc_law_hull_right.nd) gs_nil))) (s_one (s_if (kB o_lt (p_of (x_minL t.z_min (p_of (d_frz (fcomp (own := [("spot", 9)]) sc_law_hull_right.nd (i_seq (vc 1)) (fun _ _ _ _ _ => cn 9 sc_law_hull_right.nd) (fun _ _ _ _ _ => ts_nil) (fun _ _ _ _ _ => cl t.C_law_turn (ok_law_turn t y) hgd hr takes0 (a_cons (vc 7) (a_cons (vc 8) (a_cons (v 9) a_nil))))))))) (p_of d_int)) (s_one (s_ret d_bl)) s_nil)))
      (s_one (s_ret (d_and (kD o_gt (p_of (x_minL t.z_min (u 6))) (p_of d_int)) (d_one (kD (o_eq (hu64_of hr)) (p_of (cl t.C_hull (ok_hull t y) hgd hr tk (a_cons (x_tuple t.z_tuple (p_of (d_revA (uc 1)))) a_nil))) (u 4)))))))))))))
theorem ok_law_common (t : Tx K mg lt) (y : Ty t T base) : FnD P w ⟨K, lt⟩ T mg base 3 t.a_law_common t.d_law_common ["one", "two", "three", "four"] f_law_common := fnD_mk (k := 2) t.F_law_common sc_law_common fun cdv A outer s H E B hgd hr => by
    have tk := takes_of (X := Bx P w K mg base ["one", "two", "three", "four", "a", "b", "c", "under", "sign", "near", "far"] "_law_common" (defScope s_law_common) t.a_law_common cdv A outer s H E) rfl rfl rfl rfl
    have hp := passes_of (X := Bx P w K mg base ["one", "two", "three", "four", "a", "b", "c", "under", "sign", "near", "far"] "_law_common" (defScope s_law_common) t.a_law_common cdv A outer s H E) rfl
    exact s_cons (s_par2 (i := 4) (j := 5) rfl sc_law_common.nd (by kernel_rfl) (by kernel_rfl) (by decide) (by kernel_rfl) (by kernel_rfl) (a_cons (d_tup (a_cons (d_bin o_sub (p_of (d_subs (u 1) (p_of d_int))) (p_of (d_subs (u 0) (p_of d_int)))) (a_cons (d_bin o_sub (p_of (d_subs (u 1) (p_of d_int))) (p_of (d_subs (u 0) (p_of d_int)))) a_nil))) (a_cons (d_tup (a_cons (d_bin o_sub (p_of (d_subs (u 3) (p_of d_int))) (p_of (d_subs (u 2) (p_of d_int)))) (a_cons (d_bin o_sub (p_of (d_subs (u 3) (p_of d_int))) (p_of (d_subs (u 2) (p_of d_int)))) a_nil))) a_nil)) (by rfl))
      (s_cons (s_par2 (i := 6) (j := 7) rfl sc_law_common.nd (by kernel_rfl) (by kernel_rfl) (by decide) (by kernel_rfl) (by kernel_rfl) (a_cons (d_tup (a_cons (d_bin o_sub (p_of (d_subs (u 2) (p_of d_int))) (p_of (d_subs (u 0) (p_of d_int)))) (a_cons (d_bin o_sub (p_of (d_subs (u 2) (p_of d_int))) (p_of (d_subs (u 0) (p_of d_int)))) a_nil))) (a_cons (d_bin o_sub (p_of (d_bin o_rep (p_of (d_subs (u 4) (p_of d_int))) (p_of (d_subs (u 5) (p_of d_int))))) (p_of (d_bin o_rep (p_of (d_subs (u 4) (p_of d_int))) (p_of (d_subs (u 5) (p_of d_int)))))) a_nil)) (by rfl))
      (s_cons (s_if (kB (o_ne (hu64_of hr)) (u 7) (p_of d_int)) (s_cons (sset 8 sc_law_common.nd (d_if (kB o_gt (u 7) (p_of d_int)) d_int (d_un o_neg (p_of d_int))))
      (s_cons (s_par2 (i := 9) (j := 10) rfl sc_law_common.nd (by kernel_rfl) (by kernel_rfl) (by decide) (by kernel_rfl) (by kernel_rfl) (a_cons (d_bin o_rep (u 8) (p_of (d_bin o_sub (p_of (d_bin o_rep (p_of (d_subs (u 6) (p_of d_int))) (p_of (d_subs (u 5) (p_of d_int))))) (p_of (d_bin o_rep (p_of (d_subs (u 6) (p_of d_int))) (p_of (d_subs (u 5) (p_of d_int)))))))) (a_cons (d_bin o_rep (u 8) (p_of (d_bin o_sub (p_of (d_bin o_rep (p_of (d_subs (u 6) (p_of d_int))) (p_of (d_subs (u 4) (p_of d_int))))) (p_of (d_bin o_rep (p_of (d_subs (u 6) (p_of d_int))) (p_of (d_subs (u 4) (p_of d_int)))))))) a_nil)) (by rfl))
      (s_one (s_ret (d_and (d_chain o_le o_le (p_of d_int) (u 9) (p_of (x_abs t.z_abs (u 7)))) (d_one (d_chain o_le o_le (p_of d_int) (u 10) (p_of (x_abs t.z_abs (u 7)))))))))) s_nil)
      (s_one (s_ret (d_or (cl t.C_law_on (ok_law_on t y) hgd hr tk (a_cons (v 0) (a_cons (v 1) (a_cons (v 2) a_nil)))) (d_or (cl t.C_law_on (ok_law_on t y) hgd hr tk (a_cons (v 0) (a_cons (v 1) (a_cons (v 3) a_nil)))) (d_or (cl t.C_law_on (ok_law_on t y) hgd hr tk (a_cons (v 2) (a_cons (v 3) (a_cons (v 0) a_nil)))) (d_one (cl t.C_law_on (ok_law_on t y) hgd hr tk (a_cons (v 2) (a_cons (v 3) (a_cons (v 1) a_nil))))))))))))
theorem ok_law_four (t : Tx K mg lt) (y : Ty t T base) : FnD P w ⟨K, lt⟩ T mg base 3 t.a_law_four t.d_law_four ["pot"] f_law_four := fnD_mk (k := 2) t.F_law_four sc_law_four fun cdv A outer s H E B hgd hr => by
    have tk := takes_of (X := Bx P w K mg base ["pot", "top", "some", "by", "step"] "_law_four" (defScope s_law_four) t.a_law_four cdv A outer s H E) rfl rfl rfl rfl
    have hp := passes_of (X := Bx P w K mg base ["pot", "top", "some", "by", "step"] "_law_four" (defScope s_law_four) t.a_law_four cdv A outer s H E) rfl
    exact s_cons (ssetc 1 sc_law_four.nd (cl t.C_law_pick (ok_law_pick t y) hgd hr tk (a_cons (vc 0) (a_cons (d_frz (f_lst (a_cons d_int (a_cons d_int (a_cons d_int a_nil))))) a_nil))))
      (s_cons (ssetc 2 sc_law_four.nd (d_frz (fcomp (own := [("step", 4)]) sc_law_four.nd (i_range1 (by unfold Gl; kernel_rfl) t.z_range (a_cons d_int a_nil)) (fun _ _ _ _ _ => cn 4 sc_law_four.nd) (fun _ _ _ _ _ => ts_nil) (fun _ _ _ _ _ => d_tup (a_cons (d_bin o_sub (p_of (cl t.C_law_draw (ok_law_draw t y) hgd hr takes0 (a_cons (vc 0) (a_cons (d_bin o_cat (p_of (d_bin o_rep (p_of d_int) (uc 1))) (p_of d_int)) a_nil)))) (uc 1)) (a_cons (d_bin o_sub (p_of (cl t.C_law_draw (ok_law_draw t y) hgd hr takes0 (a_cons (vc 0) (a_cons (d_bin o_cat (p_of (d_bin o_rep (p_of d_int) (uc 1))) (p_of d_int)) a_nil)))) (uc 1)) a_nil))))))
      (s_cons (s_if (kB (o_eq (hu64_of hr)) (p_of (cl t.C_law_draw (ok_law_draw t y) hgd hr tk (a_cons (vc 0) (a_cons d_int a_nil)))) (p_of d_int)) (s_cons (scomp 3 (own := [("step", 4)]) sc_law_four.nd (i_range1 (by unfold Gl; kernel_rfl) t.z_range (a_cons d_int a_nil)) (fun _ _ _ _ _ => cn 4 sc_law_four.nd) (fun _ _ _ _ _ => ts_nil) (fun _ _ _ _ _ => d_bin o_sub (p_of (cl t.C_law_draw (ok_law_draw t y) hgd hr takes0 (a_cons (vc 0) (a_cons d_int a_nil)))) (p_of d_int)))
      (s_one (ssetc 2 sc_law_four.nd (d_frz (fcomp (own := [("step", 4)]) sc_law_four.nd (i_seq (v 3)) (fun _ _ _ _ _ => cn 4 sc_law_four.nd) (fun _ _ _ _ _ => ts_nil) (fun _ _ _ _ _ => d_tup (a_cons (d_bin o_cat (p_of (d_bin o_fdiv (p_of (d_subs (p_of (d_subs (uc 2) (p_of d_int))) (p_of d_int))) (p_of d_int))) (p_of (d_bin o_rep (u 4) (p_of d_int)))) (a_cons (d_bin o_cat (p_of (d_bin o_fdiv (p_of (d_subs (p_of (d_subs (uc 2) (p_of d_int))) (p_of d_int))) (p_of d_int))) (p_of (d_bin o_rep (u 4) (p_of d_int)))) a_nil)))))))) s_nil)
      (s_one (s_ret (vc 2)))))
theorem ok_law_lines_right (t : Tx K mg lt) (y : Ty t T base) : FnD P w ⟨K, lt⟩ T mg base 6 t.a_law_lines_right t.d_law_lines_right ["pot"] f_law_lines_right := fnD_mk (k := 5) t.F_law_lines_right sc_law_lines_right fun cdv A outer s H E B hgd hr => by
    have tk := takes_of (X := Bx P w K mg base ["pot", "one", "two", "three", "four", "due", "told"] "_law_lines_right" (defScope s_law_lines_right) t.a_law_lines_right cdv A outer s H E) rfl rfl rfl rfl
    have hp := passes_of (X := Bx P w K mg base ["pot", "one", "two", "three", "four", "due", "told"] "_law_lines_right" (defScope s_law_lines_right) t.a_law_lines_right cdv A outer s H E) rfl
    exact s_cons (s_asg (cl t.C_law_four (ok_law_four t y) hgd hr tk (a_cons (v 0) a_nil)) (g_tupl (n := 4) rfl (gs_cons (gn 1 sc_law_lines_right.nd) (gs_cons (gn 2 sc_law_lines_right.nd) (gs_cons (gn 3 sc_law_lines_right.nd) (gs_cons (gn 4 sc_law_lines_right.nd) gs_nil))))))
      (s_cons (sset 5 sc_law_lines_right.nd (cl t.C_law_common (ok_law_common t y) hgd hr tk (a_cons (v 1) (a_cons (v 2) (a_cons (v 3) (a_cons (v 4) a_nil))))))
      (s_cons (sown 6 sc_law_lines_right.nd (f_lst (a_cons (cl t.C_have_common (ok_have_common t y) hgd hr tk (a_cons (v 1) (a_cons (v 2) (a_cons (v 3) (a_cons (v 4) a_nil))))) (a_cons (cl t.C_have_common (ok_have_common t y) hgd hr tk (a_cons (v 4) (a_cons (v 3) (a_cons (v 1) (a_cons (v 2) a_nil))))) a_nil))))
      (s_cons (sapp 6 (clK0 t.C_have_common (ok_have_common t y) hgd hr tk t.kb_have_common_0_fourth_spot_third_spot_second_spot_spot (k_cons (v 4) (k_cons (v 3) (k_cons (v 2) (k_cons (v 1) k_nil))))))
      (s_cons (s_if (kB (o_ne (hu64_of hr)) (p_of (x_repr t.z_repr hgd (hu64_of hr) (u 6))) (p_of (x_repr t.z_repr hgd (hu64_of hr) (p_of (d_bin o_rep (p_of (d_frz (f_lst (a_cons (v 5) a_nil)))) (p_of d_int)))))) (s_one (s_ret d_bl)) s_nil)
      (s_cons (sset 5 sc_law_lines_right.nd (d_bin o_sub (p_of (d_bin o_rep (p_of (d_bin o_sub (p_of (d_subs (u 2) (p_of d_int))) (p_of (d_subs (u 1) (p_of d_int))))) (p_of (d_bin o_sub (p_of (d_subs (u 3) (p_of d_int))) (p_of (d_subs (u 1) (p_of d_int))))))) (p_of (d_bin o_rep (p_of (d_bin o_sub (p_of (d_subs (u 2) (p_of d_int))) (p_of (d_subs (u 1) (p_of d_int))))) (p_of (d_bin o_sub (p_of (d_subs (u 3) (p_of d_int))) (p_of (d_subs (u 1) (p_of d_int)))))))))
      (s_one (s_ret (kD (o_eq (hu64_of hr)) (p_of (x_repr t.z_repr hgd (hu64_of hr) (p_of (d_frz (f_lst (a_cons (cl t.C_turn (ok_turn t y) hgd hr tk (a_cons (v 1) (a_cons (v 2) (a_cons (v 3) a_nil)))) (a_cons (clK0 t.C_turn (ok_turn t y) hgd hr tk t.kb_turn_0_third_spot_second_spot_spot (k_cons (v 3) (k_cons (v 2) (k_cons (v 1) k_nil)))) (a_cons (cl t.C_turn (ok_turn t y) hgd hr tk (a_cons (v 2) (a_cons (v 1) (a_cons (v 3) a_nil)))) a_nil)))))))) (p_of (x_repr t.z_repr hgd (hu64_of hr) (p_of (d_frz (f_lst (a_cons (v 5) (a_cons (v 5) (a_cons (d_un o_neg (u 5)) a_nil))))))))))))))))
theorem ok_law_heard (t : Tx K mg lt) (y : Ty t T base) : FnC P w ⟨K, lt⟩ T mg base 8 7 t.a_law_heard t.d_law_heard ["call"] f_law_heard := fnC_mk (k := 7) t.F_law_heard sc_law_heard fun cdv A outer s H E B Cs acts hgd hr hC => by
    have tk := takes_of (X := Bx P w K mg base ["call", "told", "e"] "_law_heard" (defScope s_law_heard) t.a_law_heard cdv A outer s H E) rfl rfl rfl rfl
    have hp := passes_of (X := Bx P w K mg base ["call", "told", "e"] "_law_heard" (defScope s_law_heard) t.a_law_heard cdv A outer s H E) rfl
    exact s_cons (sset 1 sc_law_heard.nd (d_frz (f_lst (a_cons d_str a_nil))))
      (s_cons (s_try t.sub rfl rfl rfl sc_law_heard.nd tk (fun U pn xe tk hp => s_one (s_expr (d_callS (i := 0) hC (fun _ _ z => nomatch z) hgd (hr.mono (by decide)) tk))) (.named (k := 2) (i := 1) (by kernel_rfl) (by kernel_rfl) (names_mk t.x_InvalidSpot) (fun q ob cls d pn hz hf => s_one (sset 1 sc_law_heard.nd (d_frz (f_lst (a_cons d_str (a_cons (x_repr t.z_repr hgd ((hu64_of hr :)) (p_of (x_excf rfl hz hf t.ex))) (a_cons (x_isE t.sub rfl hz hf t.ex t.z_isinstance t.x_WebError) a_nil))))))) (.named (k := 2) (i := 0) (by kernel_rfl) (by kernel_rfl) (names_mk t.x_InvalidPlaces) (fun q ob cls d pn hz hf => s_one (sset 1 sc_law_heard.nd (d_frz (f_lst (a_cons d_str (a_cons (x_repr t.z_repr hgd ((hu64_of hr :)) (p_of (x_excf rfl hz hf t.ex))) (a_cons (x_isE t.sub rfl hz hf t.ex t.z_isinstance t.x_WebError) a_nil))))))) (.nil))))
      (s_one (s_ret (v 1))))
theorem ok_law_refused_right (t : Tx K mg lt) (y : Ty t T base) : FnD P w ⟨K, lt⟩ T mg base 9 t.a_law_refused_right t.d_law_refused_right ["pot"] f_law_refused_right := fnD_mkL (k := 8) t.F_law_refused_right sc_law_refused_right fun A outer s H E B hgd hr => by
    have tk := takes_of (X := Bx P w K mg base ["pot", "bad", "good", "calls", "value", "many", "call", "at"] "_law_refused_right" (defScope s_law_refused_right) t.a_law_refused_right (.ref t.c_law_refused_right) A outer s H E) rfl rfl rfl rfl
    have hp := passes_of (X := Bx P w K mg base ["pot", "bad", "good", "calls", "value", "many", "call", "at"] "_law_refused_right" (defScope s_law_refused_right) t.a_law_refused_right (.ref t.c_law_refused_right) A outer s H E) rfl
    have kk : LamK (Bx P w K mg base ["pot", "bad", "good", "calls", "value", "many", "call", "at"] "_law_refused_right" (defScope s_law_refused_right) t.a_law_refused_right (.ref t.c_law_refused_right) A outer s H E) T t.c_law_refused_right t.P_law_refused_right := ⟨y.tb_law_refused_right, rfl, y.mem_law_refused_right, y.one_law_refused_right, rfl⟩
    have hb : ∀ n, lams_law_refused_right n = stk ∨ (LamB (Bx P w K mg base ["pot", "bad", "good", "calls", "value", "many", "call", "at"] "_law_refused_right" (defScope s_law_refused_right) t.a_law_refused_right (.ref t.c_law_refused_right) A outer s H E) lt n ∧ ∀ (A1 : Around) (outer1 : List Env) (s1 : Shared) (H1 : Hp) (E1 : XK) (f1 c1 : Addr), A1.guards = some [] → Room 6 (A1.deeper (LamX.lamEnv (Bx P w K mg base ["pot", "bad", "good", "calls", "value", "many", "call", "at"] "_law_refused_right" (defScope s_law_refused_right) t.a_law_refused_right (.ref t.c_law_refused_right) A outer s H E) (lt n).scope s1.heap.objs.size f1 c1)) →
        PE (LamX.lamCx (Bx P w K mg base ["pot", "bad", "good", "calls", "value", "many", "call", "at"] "_law_refused_right" (defScope s_law_refused_right) t.a_law_refused_right (.ref t.c_law_refused_right) A outer s H E) A1 outer1 s1 H1 E1 (lt n).scope f1 c1) (lt n).body (tD (K := ⟨K, lt⟩) ⟨T, trivB _, fun c d _ H => E1 c d H, none⟩ (lams_law_refused_right n))) := fun n => by
      by_cases h0 : n = 0
      · subst h0
        exact lam_one (X := (Bx P w K mg base ["pot", "bad", "good", "calls", "value", "many", "call", "at"] "_law_refused_right" (defScope s_law_refused_right) t.a_law_refused_right (.ref t.c_law_refused_right) A outer s H E)) t.l_0 (lamB_mk t.l_0) (m := lm_0) rfl fun A1 outer1 s1 H1 E1 f1 c1 hgd hr => by
          have tk := takes_of (X := LamX.lamCx (Bx P w K mg base ["pot", "bad", "good", "calls", "value", "many", "call", "at"] "_law_refused_right" (defScope s_law_refused_right) t.a_law_refused_right (.ref t.c_law_refused_right) A outer s H E) A1 outer1 s1 H1 E1 (lamSc le_0) f1 c1) rfl rfl rfl rfl
          exact cl t.C_turn (ok_turn t y) hgd hr tk (a_cons (vf 1) (a_cons d_non (a_cons d_non a_nil)))
      by_cases h1 : n = 1
      · subst h1
        exact lam_one (X := (Bx P w K mg base ["pot", "bad", "good", "calls", "value", "many", "call", "at"] "_law_refused_right" (defScope s_law_refused_right) t.a_law_refused_right (.ref t.c_law_refused_right) A outer s H E)) t.l_1 (lamB_mk t.l_1) (m := lm_1) rfl fun A1 outer1 s1 H1 E1 f1 c1 hgd hr => by
          have tk := takes_of (X := LamX.lamCx (Bx P w K mg base ["pot", "bad", "good", "calls", "value", "many", "call", "at"] "_law_refused_right" (defScope s_law_refused_right) t.a_law_refused_right (.ref t.c_law_refused_right) A outer s H E) A1 outer1 s1 H1 E1 (lamSc le_1) f1 c1) rfl rfl rfl rfl
          exact cl t.C_turn (ok_turn t y) hgd hr tk (a_cons (vf 2) (a_cons (vf 1) (a_cons d_non a_nil)))
      by_cases h2 : n = 2
      · subst h2
        exact lam_one (X := (Bx P w K mg base ["pot", "bad", "good", "calls", "value", "many", "call", "at"] "_law_refused_right" (defScope s_law_refused_right) t.a_law_refused_right (.ref t.c_law_refused_right) A outer s H E)) t.l_2 (lamB_mk t.l_2) (m := lm_2) rfl fun A1 outer1 s1 H1 E1 f1 c1 hgd hr => by
          have tk := takes_of (X := LamX.lamCx (Bx P w K mg base ["pot", "bad", "good", "calls", "value", "many", "call", "at"] "_law_refused_right" (defScope s_law_refused_right) t.a_law_refused_right (.ref t.c_law_refused_right) A outer s H E) A1 outer1 s1 H1 E1 (lamSc le_2) f1 c1) rfl rfl rfl rfl
          exact cl t.C_turn (ok_turn t y) hgd hr tk (a_cons (vf 2) (a_cons (vf 2) (a_cons (vf 1) a_nil)))
      by_cases h3 : n = 3
      · subst h3
        exact lam_one (X := (Bx P w K mg base ["pot", "bad", "good", "calls", "value", "many", "call", "at"] "_law_refused_right" (defScope s_law_refused_right) t.a_law_refused_right (.ref t.c_law_refused_right) A outer s H E)) t.l_3 (lamB_mk t.l_3) (m := lm_3) rfl fun A1 outer1 s1 H1 E1 f1 c1 hgd hr => by
          have tk := takes_of (X := LamX.lamCx (Bx P w K mg base ["pot", "bad", "good", "calls", "value", "many", "call", "at"] "_law_refused_right" (defScope s_law_refused_right) t.a_law_refused_right (.ref t.c_law_refused_right) A outer s H E) A1 outer1 s1 H1 E1 (lamSc le_3) f1 c1) rfl rfl rfl rfl
          exact cl t.C_have_common (ok_have_common t y) hgd hr tk (a_cons (vf 1) (a_cons d_non (a_cons d_non (a_cons d_non a_nil))))
      by_cases h4 : n = 4
      · subst h4
        exact lam_one (X := (Bx P w K mg base ["pot", "bad", "good", "calls", "value", "many", "call", "at"] "_law_refused_right" (defScope s_law_refused_right) t.a_law_refused_right (.ref t.c_law_refused_right) A outer s H E)) t.l_4 (lamB_mk t.l_4) (m := lm_4) rfl fun A1 outer1 s1 H1 E1 f1 c1 hgd hr => by
          have tk := takes_of (X := LamX.lamCx (Bx P w K mg base ["pot", "bad", "good", "calls", "value", "many", "call", "at"] "_law_refused_right" (defScope s_law_refused_right) t.a_law_refused_right (.ref t.c_law_refused_right) A outer s H E) A1 outer1 s1 H1 E1 (lamSc le_4) f1 c1) rfl rfl rfl rfl
          exact cl t.C_have_common (ok_have_common t y) hgd hr tk (a_cons (vf 2) (a_cons (vf 2) (a_cons (vf 1) (a_cons d_non a_nil))))
      by_cases h5 : n = 5
      · subst h5
        exact lam_one (X := (Bx P w K mg base ["pot", "bad", "good", "calls", "value", "many", "call", "at"] "_law_refused_right" (defScope s_law_refused_right) t.a_law_refused_right (.ref t.c_law_refused_right) A outer s H E)) t.l_5 (lamB_mk t.l_5) (m := lm_5) rfl fun A1 outer1 s1 H1 E1 f1 c1 hgd hr => by
          have tk := takes_of (X := LamX.lamCx (Bx P w K mg base ["pot", "bad", "good", "calls", "value", "many", "call", "at"] "_law_refused_right" (defScope s_law_refused_right) t.a_law_refused_right (.ref t.c_law_refused_right) A outer s H E) A1 outer1 s1 H1 E1 (lamSc le_5) f1 c1) rfl rfl rfl rfl
          exact cl t.C_have_common (ok_have_common t y) hgd hr tk (a_cons (vf 2) (a_cons (vf 2) (a_cons (vf 2) (a_cons (vf 1) a_nil))))
      by_cases h6 : n = 6
      · subst h6
        exact lam_one (X := (Bx P w K mg base ["pot", "bad", "good", "calls", "value", "many", "call", "at"] "_law_refused_right" (defScope s_law_refused_right) t.a_law_refused_right (.ref t.c_law_refused_right) A outer s H E)) t.l_6 (lamB_mk t.l_6) (m := lm_6) rfl fun A1 outer1 s1 H1 E1 f1 c1 hgd hr => by
          have tk := takes_of (X := LamX.lamCx (Bx P w K mg base ["pot", "bad", "good", "calls", "value", "many", "call", "at"] "_law_refused_right" (defScope s_law_refused_right) t.a_law_refused_right (.ref t.c_law_refused_right) A outer s H E) A1 outer1 s1 H1 E1 (lamSc le_6) f1 c1) rfl rfl rfl rfl
          exact cl t.C_hull (ok_hull t y) hgd hr tk (a_cons (vf 4) a_nil)
      by_cases h7 : n = 7
      · subst h7
        exact lam_one (X := (Bx P w K mg base ["pot", "bad", "good", "calls", "value", "many", "call", "at"] "_law_refused_right" (defScope s_law_refused_right) t.a_law_refused_right (.ref t.c_law_refused_right) A outer s H E)) t.l_7 (lamB_mk t.l_7) (m := lm_7) rfl fun A1 outer1 s1 H1 E1 f1 c1 hgd hr => by
          have tk := takes_of (X := LamX.lamCx (Bx P w K mg base ["pot", "bad", "good", "calls", "value", "many", "call", "at"] "_law_refused_right" (defScope s_law_refused_right) t.a_law_refused_right (.ref t.c_law_refused_right) A outer s H E) A1 outer1 s1 H1 E1 (lamSc le_7) f1 c1) rfl rfl rfl rfl
          exact cl t.C_hull (ok_hull t y) hgd hr tk (a_cons (vf 5) a_nil)
      exact .inl (by unfold lams_law_refused_right; rw [if_neg h0, if_neg h1, if_neg h2, if_neg h3, if_neg h4, if_neg h5, if_neg h6, if_neg h7])
    exact s_cons (s_asg (d_tup (a_cons (cl t.C_law_pick (ok_law_pick t y) hgd hr tk (a_cons (v 0) (a_cons (d_frz (f_lst (a_cons d_non (a_cons (d_tup (a_cons d_int a_nil)) (a_cons (d_frz (f_lst (a_cons d_int (a_cons d_int a_nil)))) (a_cons (d_tup (a_cons d_int (a_cons d_int (a_cons d_int a_nil)))) (a_cons (d_tup (a_cons d_int (a_cons d_int a_nil))) (a_cons (d_tup (a_cons d_int (a_cons (d_un o_neg (p_of d_int)) a_nil))) (a_cons (d_tup (a_cons d_bl (a_cons d_int a_nil))) (a_cons (d_tup (a_cons d_int (a_cons (d_tup (a_cons d_int (a_cons d_int a_nil))) a_nil))) (a_cons d_str a_nil))))))))))) a_nil))) (a_cons (d_tup (a_cons d_int (a_cons (d_un o_neg (p_of d_int)) a_nil))) a_nil))) (g_tup (n := 2) rfl (gs_cons (gnc 1 sc_law_refused_right.nd) (gs_cons (gnc 2 sc_law_refused_right.nd) gs_nil))))
      (s_cons (sown 3 sc_law_refused_right.nd (f_lst (a_cons (x_lam kk t.l_0) a_nil)))
      (s_cons (sapp 3 (x_lam kk t.l_1))
      (s_cons (sapp 3 (x_lam kk t.l_2))
      (s_cons (sapp 3 (x_lam kk t.l_3))
      (s_cons (sapp 3 (x_lam kk t.l_4))
      (s_cons (sapp 3 (x_lam kk t.l_5))
      (s_cons (s_if (kB (o_ne (hu64_of hr)) (p_of (d_frz (f_lcC (own := [("call", 6)]) sc_law_refused_right.nd (i_seq (v 3)) rfl hb (fun _ _ _ _ _ _ => cn 6 sc_law_refused_right.nd) (fun _ _ _ _ _ _ acts bc => ts_one (kB (o_ne (hu64_of hr)) (p_of (d_callC t.C_law_heard (ok_law_heard t y) (acts_blk _ rfl bc) hgd hr takes0 (a_cons (v 6) a_nil))) (p_of (d_frz (f_lst (a_cons d_str (a_cons (x_repr t.z_repr hgd (hu64_of hr) (uc 1)) (a_cons d_bl a_nil)))))))) (fun _ _ _ _ _ _ acts bc => v 6)))) (p_of (d_frz (f_lst a_nil)))) (s_one (s_ret d_bl)) s_nil)
      (s_cons (s_for hp rfl (i_seq (d_frz (f_lst (a_cons d_non (a_cons (d_tup a_nil) (a_cons (d_tup (a_cons (d_tup (a_cons d_int (a_cons d_int a_nil))) (a_cons (d_tup (a_cons d_int (a_cons d_int a_nil))) a_nil))) (a_cons (d_frz (f_lst (a_cons (d_tup (a_cons d_int (a_cons d_int a_nil))) (a_cons (d_tup (a_cons d_int (a_cons d_int a_nil))) (a_cons (d_tup (a_cons d_int (a_cons d_int a_nil))) a_nil))))) (a_cons (d_tup (a_cons (d_tup (a_cons d_int (a_cons d_int a_nil))) (a_cons (d_tup (a_cons d_int (a_cons d_int a_nil))) (a_cons (d_tup (a_cons d_int (a_cons d_int a_nil))) a_nil)))) (a_cons (d_tup (a_cons (d_tup (a_cons d_int (a_cons d_int a_nil))) (a_cons (d_tup (a_cons d_int (a_cons d_int a_nil))) (a_cons (d_tup (a_cons d_int (a_cons d_int a_nil))) a_nil)))) (a_cons (d_tup (a_cons (d_tup (a_cons d_int (a_cons d_int a_nil))) (a_cons (d_tup (a_cons d_int (a_cons d_int a_nil))) (a_cons (vc 1) a_nil)))) a_nil)))))))))) (gnc 4 sc_law_refused_right.nd) (s_one (s_if (kB (o_ne (hu64_of hr)) (p_of (d_callC t.C_law_heard (ok_law_heard t y) (acts_frame rfl hb) hgd hr tk (a_cons (x_lam kk t.l_6) a_nil))) (p_of (d_frz (f_lst (a_cons d_str (a_cons (x_repr t.z_repr hgd (hu64_of hr) (uc 4)) (a_cons d_bl a_nil))))))) (s_one (s_ret d_bl)) s_nil)))
      (s_cons (ssetc 5 sc_law_refused_right.nd (x_tuple t.z_tuple (p_of (d_frz (fcomp (own := [("at", 7)]) sc_law_refused_right.nd (i_range1 (by unfold Gl; kernel_rfl) t.z_range (a_cons d_int a_nil)) (fun _ _ _ _ _ => cn 7 sc_law_refused_right.nd) (fun _ _ _ _ _ => ts_nil) (fun _ _ _ _ _ => d_tup (a_cons (v 7) (a_cons (d_bin o_rep (u 7) (u 7)) a_nil))))))))
      (s_one (s_ret (d_and (kD (o_eq (hu64_of hr)) (p_of (d_callC t.C_law_heard (ok_law_heard t y) (acts_frame rfl hb) hgd hr tk (a_cons (x_lam kk t.l_7) a_nil))) (p_of (d_frz (f_lst (a_cons d_str (a_cons (x_repr t.z_repr hgd (hu64_of hr) (uc 5)) (a_cons d_bl a_nil))))))) (d_one (kD (o_eq (hu64_of hr)) (p_of (x_len t.z_len (p_of (cl t.C_hull (ok_hull t y) hgd hr tk (a_cons (d_slice (uc 5) po_no (po_so (p_of d_int))) a_nil))))) (p_of d_int)))))))))))))))
theorem ok_law (t : Tx K mg lt) (y : Ty t T base) : FnD P w ⟨K, lt⟩ T mg base 10 t.a_law t.d_law ["script"] f_law := fnD_mk (k := 9) t.F_law sc_law fun cdv A outer s H E B hgd hr => by
    have tk := takes_of (X := Bx P w K mg base ["script", "pot", "other", "turn_number"] "law" (defScope s_law) t.a_law cdv A outer s H E) rfl rfl rfl rfl
    have hp := passes_of (X := Bx P w K mg base ["script", "pot", "other", "turn_number"] "law" (defScope s_law) t.a_law cdv A outer s H E) rfl
    exact s_cons (s_par2 (i := 1) (j := 2) rfl sc_law.nd (by kernel_rfl) (by kernel_rfl) (by decide) (by kernel_rfl) (by kernel_rfl) (a_cons (cl t.C_law_pot (ok_law_pot t y) hgd hr tk (a_cons (v 0) (a_cons d_int a_nil))) (a_cons (cl t.C_law_pot (ok_law_pot t y) hgd hr tk (a_cons (v 0) (a_cons d_int a_nil))) a_nil)) (by rfl))
      (s_cons (s_for hp rfl (i_range1 (by unfold Gl; kernel_rfl) t.z_range (a_cons d_int a_nil)) (gn 3 sc_law.nd) (s_one (s_if ((b_or (b_not (b_test (p_of (cl t.C_law_lines_right (ok_law_lines_right t y) hgd hr tk (a_cons (v 1) a_nil))))) (b_or1 (b_not (b_test (p_of (cl t.C_law_lines_right (ok_law_lines_right t y) hgd hr tk (a_cons (v 2) a_nil))))))).pt) (s_one (s_ret d_bl)) s_nil)))
      (s_one (s_ret (d_and (cl t.C_law_hull_right (ok_law_hull_right t y) hgd hr tk (a_cons (v 1) a_nil)) (d_and (cl t.C_law_hull_right (ok_law_hull_right t y) hgd hr tk (a_cons (v 2) a_nil)) (d_one (cl t.C_law_refused_right (ok_law_refused_right t y) hgd hr tk (a_cons (v 1) a_nil))))))))
end
end
end K12

set_option linter.all false
set_option maxRecDepth 100000
namespace K12
open Mp
/-! ### drawing -/
def PotI (n : Nat) (ms : List (List D)) : Prop := ∃ a b : Int, ms[n]? = some [.int a, .int b] ∧ 0 ≤ a ∧ 0 ≤ b ∧ b < 2 ^ 40
def Two (ms : List (List D)) : Prop := PotI 0 ms ∧ PotI 1 ms ∧ ms.length = 2
theorem Two.at {ms : List (List D)} (h : Two ms) {n : Nat} (hn : n < 2) : PotI n ms := by
  match n, hn with
  | 0, _ => exact h.1
  | 1, _ => exact h.2.1
theorem Two.set {ms : List (List D)} (h : Two ms) {n : Nat} {a b : Int} (h0 : 0 ≤ a) (h1 : 0 ≤ b) (h2 : b < 2 ^ 40) : Two (ms.set n [.int a, .int b]) := by
  have key : ∀ m, PotI m ms → PotI m (ms.set n [.int a, .int b]) := fun m hm => by
    by_cases e : n = m
    · subst e
      obtain ⟨_, _, hs, _⟩ := hm
      exact ⟨a, b, by rw [List.getElem?_set_self (List.getElem?_eq_some_iff.mp hs).1], h0, h1, h2⟩
    · obtain ⟨x, y, hs, r⟩ := hm
      exact ⟨x, y, by rw [List.getElem?_set_ne e]; exact hs, r⟩
  exact ⟨key 0 h.1, key 1 h.2.1, by rw [List.length_set]; exact h.2.2⟩
theorem k_draw (n : Nat) (hn : n < 2) (many : Int) (s : S) (ht : Two s.ms) (h0 : 0 < many) (h1 : many < 2 ^ 60) :
    ∃ (k : Int) (ms' : List (List D)), f_law_draw [.ref n, .int many] s = .ok (.int k) ⟨s.env, ms'⟩ ∧ 0 ≤ k ∧ k < many ∧ Two ms' := by
  obtain ⟨a, b, hs, ha, hb, hb2⟩ := ht.at hn
  have hlt : n < s.ms.length := (List.getElem?_eq_some_iff.mp hs).1
  have hlog : many.natAbs.log2 < 9000 := Nat.lt_trans (log2_lt_of (n := 60) (by omega) (by decide)) (by decide)
  by_cases c : 0 < a
  · refine ⟨a % many, s.ms.set n [.int (a / many), .int b], ?_, Int.emod_nonneg _ (by omega), Int.emod_lt_of_pos _ h0, ht.set (Int.ediv_nonneg ha (by omega)) hb hb2⟩
    simp [f_law_draw, m_law_draw, hs, at0, c, h0, hlog, divmodO, tgtS, setAt, L2.ixN, fnM, bnd, Mp.ret, lift, stk, seqS, retS, asgS, dropS, ifS, setv, getv, peekv, op1, op2, ap1, ap2, asB, chain2, testM, truM, truO, andV, orV, notV, ifV, andB, orB, notB, argN, argC, mkTup, mkLst, frzd, callM, onMs, subsO, lenO, absO, isiO, D.tg, isTy, tgtT, tgtC, tgtN, par2, par3, forS, seqI, srcD, catO, addO, subO, repO, mulO, fdivO, modO, negO, ltO, leO, gtO, geO, cmpI, gcdO, maxO, minO, intO, tupleO, listO]
  · have hs' : s.ms[n]'hlt = [.int a, .int b] := (List.getElem?_eq_some_iff.mp hs).2
    have hb' : b.natAbs < 2 ^ 40 := by omega
    have m1 : mulOk b 48271 = true := mulOk_of (n := 40) (m := 20) hb' (by decide) (by decide)
    have f1 : (b * 48271 + 991).fmod 2147483587 = (b * 48271 + 991) % 2147483587 := Int.fmod_eq_emod_of_nonneg _ (by decide)
    have b0 : 0 ≤ (b * 48271 + 991) % 2147483587 := Int.emod_nonneg _ (by decide)
    have b1 : (b * 48271 + 991) % 2147483587 < 2147483587 := Int.emod_lt_of_pos _ (by decide)
    generalize hbb : (b * 48271 + 991) % 2147483587 = b' at f1 b0 b1
    have m2 : mulOk b' b' = true := mulOk_of (n := 40) (m := 40) (by omega) (by omega) (by decide)
    have f2 : (b' * b').fmod 2147483563 = (b' * b') % 2147483563 := Int.fmod_eq_emod_of_nonneg _ (by decide)
    generalize (b' * b') % 2147483563 = c1 at f2
    have d1 : divOk 19 = true := by decide
    generalize hc2 : c1.fdiv 19 = c2
    have f3 : c2.fmod many = c2 % many := Int.fmod_eq_emod_of_nonneg _ (by omega)
    have hm0 : many ≠ 0 := by omega
    refine ⟨c2 % many, s.ms.set n [.int a, .int b'], ?_, Int.emod_nonneg _ (by omega), Int.emod_lt_of_pos _ h0, ht.set ha b0 (by omega)⟩
    simp [f_law_draw, m_law_draw, hs, hs', hlt, at0, at1, c, m1, f1, m2, f2, d1, hc2, f3, hm0, tgtS, setAt, L2.ixN, fnM, bnd, Mp.ret, lift, stk, seqS, retS, asgS, dropS, ifS, setv, getv, peekv, op1, op2, ap1, ap2, asB, chain2, testM, truM, truO, andV, orV, notV, ifV, andB, orB, notB, argN, argC, mkTup, mkLst, frzd, callM, onMs, subsO, lenO, absO, isiO, D.tg, isTy, tgtT, tgtC, tgtN, par2, par3, forS, seqI, srcD, catO, addO, subO, repO, mulO, fdivO, modO, negO, ltO, leO, gtO, geO, cmpI, gcdO, maxO, minO, intO, tupleO, listO]
theorem k_pick (n : Nat) (hn : n < 2) (xs : List D) (s : S) (ht : Two s.ms) (h0 : xs ≠ []) (h1 : xs.length < 1000) : ∃ (d : D) (ms' : List (List D)), f_law_pick [.ref n, .lst xs] s = .ok d ⟨s.env, ms'⟩ ∧ d ∈ xs ∧ Two ms' := by
  have hp : 0 < xs.length := List.length_pos_iff.mpr h0
  obtain ⟨k, ms', e, k0, k1, kp⟩ := k_draw n hn (xs.length : Int) ⟨[], s.ms⟩ ht (by omega) (by omega)
  have hk : k.toNat < xs.length := by omega
  have ek : (k.toNat : Int) = k := by omega
  have ha : L2.atI xs k = some xs[k.toNat] := by
    have := atN (List.getElem?_eq_getElem hk)
    rwa [ek] at this
  refine ⟨xs[k.toNat], ms', ?_, List.getElem_mem hk, kp⟩
  simp [f_law_pick, m_law_pick, e, ha, fnM, bnd, Mp.ret, lift, stk, seqS, retS, asgS, dropS, ifS, setv, getv, peekv, op1, op2, ap1, ap2, asB, chain2, testM, truM, truO, andV, orV, notV, ifV, andB, orB, notB, argN, argC, mkTup, mkLst, frzd, callM, onMs, subsO, lenO, absO, isiO, D.tg, isTy, tgtT, tgtC, tgtN, par2, par3, forS, seqI, srcD, catO, addO, subO, repO, mulO, fdivO, modO, negO, ltO, leO, gtO, geO, cmpI, gcdO, maxO, minO, intO, tupleO, listO]
theorem e_pot (xs : List Int) (k : Nat) (s : S) (hk : k ≤ 10) : ∃ a b : Int, f_law_pot [.scr (xs.map .int), .int (k : Nat)] s = .ok (.ref s.ms.length) ⟨s.env, s.ms ++ [[.int a, .int b]]⟩ ∧ 0 ≤ a ∧ 0 ≤ b ∧ b < 2 ^ 40 := by
  have hp : powOk 10 18 = true := by decide
  have m0 : mulOk 877 (k : Int) = true := mulOk_of (n := 20) (m := 20) (by decide) (by omega) (by decide)
  have m3 : mulOk 521 (k : Int) = true := mulOk_of (n := 20) (m := 20) (by decide) (by omega) (by decide)
  have key : ∀ c : Int, 0 ≤ c → ∃ a b : Int, (∀ e : List Sl, (retS (refd (bnd (argC (op2 maxO (ret (.int 0)) (op2 subO (peekv 2) (op2 powO (ret (.int 10)) (ret (.int 18))))) (argC (op2 catO (op2 modO (op1 intO (op2 catO (op2 catO (op2 repO (op2 modO (op1 intO (peekv 2)) (ret (.int 2147483549))) (ret (.int 40927))) (op2 repO (ret (.int 521)) (peekv 1))) (ret (.int 59)))) (ret (.int 2147483563))) (ret (.int 1))) argN)) mkLst))) ⟨[.val (.scr (xs.map .int)), .val (.int (k : Nat)), .val (.int c)], s.ms⟩ = .ok (.ret (.ref s.ms.length)) ⟨[.val (.scr (xs.map .int)), .val (.int (k : Nat)), .val (.int c)], s.ms ++ [[.int a, .int b]]⟩) ∧ 0 ≤ a ∧ 0 ≤ b ∧ b < 2 ^ 40 := by
    intro c hc
    have f1 : c.fmod 2147483549 = c % 2147483549 := Int.fmod_eq_emod_of_nonneg _ (by decide)
    have b0 : 0 ≤ c % 2147483549 := Int.emod_nonneg _ (by decide)
    have b1 : c % 2147483549 < 2147483549 := Int.emod_lt_of_pos _ (by decide)
    have p18 : (10 : Int) ^ 18 = 1000000000000000000 := by decide
    generalize c % 2147483549 = r at f1 b0 b1
    have m1 : mulOk r 40927 = true := mulOk_of (n := 40) (m := 20) (by omega) (by decide) (by decide)
    have f2 : ∀ z : Int, z.fmod 2147483563 = z % 2147483563 := fun z => Int.fmod_eq_emod_of_nonneg _ (by decide)
    have g0 := Int.emod_nonneg (r * 40927 + 521 * (k : Int) + 59) (b := 2147483563) (by decide)
    have g1 := Int.emod_lt_of_pos (r * 40927 + 521 * (k : Int) + 59) (b := 2147483563) (by decide)
    generalize hz : (r * 40927 + 521 * (k : Int) + 59) % 2147483563 = z at g0 g1
    obtain ⟨a, ha, a0⟩ : ∃ a : Int, (if 0 < c - 1000000000000000000 then c - 1000000000000000000 else 0) = a ∧ 0 ≤ a := by
      split
      · exact ⟨_, rfl, by omega⟩
      · exact ⟨_, rfl, by omega⟩
    refine ⟨a, z + 1, fun _ => ?_, a0, by omega, by omega⟩
    have ha' : (if 1000000000000000000 < c then c - 1000000000000000000 else 0) = a := by
      rw [← ha]
      split <;> split <;> omega
    simp [m0, m3, m1, f1, f2, hz, hp, powO, p18, ha, ha', refd, fnM, bnd, Mp.ret, lift, stk, seqS, retS, asgS, dropS, ifS, setv, getv, peekv, op1, op2, ap1, ap2, asB, chain2, testM, truM, truO, andV, orV, notV, ifV, andB, orB, notB, argN, argC, mkTup, mkLst, frzd, callM, onMs, subsO, lenO, absO, isiO, D.tg, isTy, tgtT, tgtC, tgtN, par2, par3, forS, seqI, srcD, catO, addO, subO, repO, mulO, fdivO, modO, negO, ltO, leO, gtO, geO, cmpI, gcdO, maxO, minO, intO, tupleO, listO]
  by_cases c : k < xs.length
  · have hx : L2.atI (xs.map D.int) (k : Int) = some (.int xs[k]) := atN (by rw [List.getElem?_map, List.getElem?_eq_getElem c]; rfl)
    obtain ⟨cc, hcc, hc0⟩ : ∃ cc : Int, (if xs[k] < 0 then -xs[k] else xs[k]) = cc ∧ 0 ≤ cc := by
      split
      · exact ⟨_, rfl, by omega⟩
      · exact ⟨_, rfl, by omega⟩
    obtain ⟨a, b, h, a0, b0, b1⟩ := key cc hc0
    refine ⟨a, b, ?_, a0, b0, b1⟩
    have h := h []
    simp only [f_law_pot, m_law_pot]
    generalize (retS (refd (bnd (argC (op2 maxO (ret (.int 0)) (op2 subO (peekv 2) (op2 powO (ret (.int 10)) (ret (.int 18))))) (argC (op2 catO (op2 modO (op1 intO (op2 catO (op2 catO (op2 repO (op2 modO (op1 intO (peekv 2)) (ret (.int 2147483549))) (ret (.int 40927))) (op2 repO (ret (.int 521)) (peekv 1))) (ret (.int 59)))) (ret (.int 2147483563))) (ret (.int 1))) argN)) mkLst))) = R at *
    have hlen : (xs.map D.int).length = xs.length := List.length_map ..
    have c2 : (k : Int) < (xs.length : Int) := by omega
    generalize xs.map D.int = ys at *
    simp [c, hx, hcc, h, hlen, m0, fnM, bnd, Mp.ret, lift, stk, seqS, retS, asgS, dropS, ifS, setv, getv, peekv, op1, op2, ap1, ap2, asB, chain2, testM, truM, truO, andV, orV, notV, ifV, andB, orB, notB, argN, argC, mkTup, mkLst, frzd, callM, onMs, subsO, lenO, absO, isiO, D.tg, isTy, tgtT, tgtC, tgtN, par2, par3, forS, seqI, srcD, catO, addO, subO, repO, mulO, fdivO, modO, negO, ltO, leO, gtO, geO, cmpI, gcdO, maxO, minO, intO, tupleO, listO]
  · obtain ⟨a, b, h, a0, b0, b1⟩ := key (877 * (k : Int) + 521) (by omega)
    refine ⟨a, b, ?_, a0, b0, b1⟩
    have h := h []
    simp only [f_law_pot, m_law_pot]
    generalize (retS (refd (bnd (argC (op2 maxO (ret (.int 0)) (op2 subO (peekv 2) (op2 powO (ret (.int 10)) (ret (.int 18))))) (argC (op2 catO (op2 modO (op1 intO (op2 catO (op2 catO (op2 repO (op2 modO (op1 intO (peekv 2)) (ret (.int 2147483549))) (ret (.int 40927))) (op2 repO (ret (.int 521)) (peekv 1))) (ret (.int 59)))) (ret (.int 2147483563))) (ret (.int 1))) argN)) mkLst))) = R at *
    have hlen : (xs.map D.int).length = xs.length := List.length_map ..
    generalize xs.map D.int = ys at *
    simp [c, h, hlen, m0, fnM, bnd, Mp.ret, lift, stk, seqS, retS, asgS, dropS, ifS, setv, getv, peekv, op1, op2, ap1, ap2, asB, chain2, testM, truM, truO, andV, orV, notV, ifV, andB, orB, notB, argN, argC, mkTup, mkLst, frzd, callM, onMs, subsO, lenO, absO, isiO, D.tg, isTy, tgtT, tgtC, tgtN, par2, par3, forS, seqI, srcD, catO, addO, subO, repO, mulO, fdivO, modO, negO, ltO, leO, gtO, geO, cmpI, gcdO, maxO, minO, intO, tupleO, listO]
end K12

set_option linter.all false
set_option maxRecDepth 100000
namespace K12
open Mp Hul
/-! ### turns -/
def Sm (p : Pt) : Prop := p.1.natAbs < 2 ^ 20 ∧ p.2.natAbs < 2 ^ 20
theorem d22 {a b : Int} (h1 : a.natAbs < 2 ^ 20) (h2 : b.natAbs < 2 ^ 20) : (a - b).natAbs < 2 ^ 22 := by omega
theorem m22 {a b : Int} (h1 : a.natAbs < 2 ^ 22) (h2 : b.natAbs < 2 ^ 22) : mulOk a b = true := mulOk_of h1 h2 (by decide)
theorem e_way_of (a b : Pt) (s : S) : f_way_of [pairD a, pairD b] s = .ok (pairD (b.1 - a.1, b.2 - a.2)) s := by
  simp [f_way_of, m_way_of, pairD, at0, at1, fnM, bnd, Mp.ret, lift, stk, seqS, retS, asgS, dropS, ifS, setv, getv, peekv, op1, op2, ap1, ap2, asB, chain2, testM, truM, truO, andV, orV, notV, ifV, andB, orB, notB, argN, argC, mkTup, mkLst, frzd, callM, onMs, subsO, lenO, absO, isiO, D.tg, isTy, tgtT, tgtC, tgtN, par2, par3, forS, seqI, srcD, catO, addO, subO, repO, mulO, fdivO, modO, negO, ltO, leO, gtO, geO, cmpI, gcdO, maxO, minO, intO, tupleO, listO]
theorem e_cross (u v : Pt) (s : S) (hu : u.1.natAbs < 2 ^ 22 ∧ u.2.natAbs < 2 ^ 22) (hv : v.1.natAbs < 2 ^ 22 ∧ v.2.natAbs < 2 ^ 22) : f_cross [pairD u, pairD v] s = .ok (.int (u.1 * v.2 - u.2 * v.1)) s := by
  have h1 := m22 hu.1 hv.2
  have h2 := m22 hu.2 hv.1
  simp [f_cross, m_cross, pairD, at0, at1, h1, h2, fnM, bnd, Mp.ret, lift, stk, seqS, retS, asgS, dropS, ifS, setv, getv, peekv, op1, op2, ap1, ap2, asB, chain2, testM, truM, truO, andV, orV, notV, ifV, andB, orB, notB, argN, argC, mkTup, mkLst, frzd, callM, onMs, subsO, lenO, absO, isiO, D.tg, isTy, tgtT, tgtC, tgtN, par2, par3, forS, seqI, srcD, catO, addO, subO, repO, mulO, fdivO, modO, negO, ltO, leO, gtO, geO, cmpI, gcdO, maxO, minO, intO, tupleO, listO]
theorem e_dot (u v : Pt) (s : S) (hu : u.1.natAbs < 2 ^ 22 ∧ u.2.natAbs < 2 ^ 22) (hv : v.1.natAbs < 2 ^ 22 ∧ v.2.natAbs < 2 ^ 22) : f_dot [pairD u, pairD v] s = .ok (.int (u.1 * v.1 + u.2 * v.2)) s := by
  have h1 := m22 hu.1 hv.1
  have h2 := m22 hu.2 hv.2
  simp [f_dot, m_dot, pairD, at0, at1, h1, h2, fnM, bnd, Mp.ret, lift, stk, seqS, retS, asgS, dropS, ifS, setv, getv, peekv, op1, op2, ap1, ap2, asB, chain2, testM, truM, truO, andV, orV, notV, ifV, andB, orB, notB, argN, argC, mkTup, mkLst, frzd, callM, onMs, subsO, lenO, absO, isiO, D.tg, isTy, tgtT, tgtC, tgtN, par2, par3, forS, seqI, srcD, catO, addO, subO, repO, mulO, fdivO, modO, negO, ltO, leO, gtO, geO, cmpI, gcdO, maxO, minO, intO, tupleO, listO]
theorem e_turn_of (a b c : Pt) (s : S) (ha : Sm a) (hb : Sm b) (hc : Sm c) : f_turn_of [pairD a, pairD b, pairD c] s = .ok (.int (turn a b c)) s := by
  have h1 := fun s => e_way_of a b s
  have h2 := fun s => e_way_of a c s
  have h3 := fun s => e_cross (b.1 - a.1, b.2 - a.2) (c.1 - a.1, c.2 - a.2) s ⟨d22 hb.1 ha.1, d22 hb.2 ha.2⟩ ⟨d22 hc.1 ha.1, d22 hc.2 ha.2⟩
  generalize pairD a = A at *
  generalize pairD b = B at *
  generalize pairD c = C at *
  simp [f_turn_of, m_turn_of, h1, h2, h3, turn, fnM, bnd, Mp.ret, lift, stk, seqS, retS, asgS, dropS, ifS, setv, getv, peekv, op1, op2, ap1, ap2, asB, chain2, testM, truM, truO, andV, orV, notV, ifV, andB, orB, notB, argN, argC, mkTup, mkLst, frzd, callM, onMs, subsO, lenO, absO, isiO, D.tg, isTy, tgtT, tgtC, tgtN, par2, par3, forS, seqI, srcD, catO, addO, subO, repO, mulO, fdivO, modO, negO, ltO, leO, gtO, geO, cmpI, gcdO, maxO, minO, intO, tupleO, listO]
theorem e_law_turn (a b c : Pt) (s : S) (ha : Sm a) (hb : Sm b) (hc : Sm c) : f_law_turn [pairD a, pairD b, pairD c] s = .ok (.int (turn a b c)) s := by
  have h1 := m22 (d22 hb.1 ha.1) (d22 hc.2 ha.2)
  have h2 := m22 (d22 hb.2 ha.2) (d22 hc.1 ha.1)
  simp [f_law_turn, m_law_turn, pairD, at0, at1, h1, h2, turn, fnM, bnd, Mp.ret, lift, stk, seqS, retS, asgS, dropS, ifS, setv, getv, peekv, op1, op2, ap1, ap2, asB, chain2, testM, truM, truO, andV, orV, notV, ifV, andB, orB, notB, argN, argC, mkTup, mkLst, frzd, callM, onMs, subsO, lenO, absO, isiO, D.tg, isTy, tgtT, tgtC, tgtN, par2, par3, forS, seqI, srcD, catO, addO, subO, repO, mulO, fdivO, modO, negO, ltO, leO, gtO, geO, cmpI, gcdO, maxO, minO, intO, tupleO, listO]
def onB (a b q : Pt) : Bool := decide (turn a b q = 0) && (decide (min a.1 b.1 ≤ q.1) && decide (q.1 ≤ max a.1 b.1) && (decide (min a.2 b.2 ≤ q.2) && decide (q.2 ≤ max a.2 b.2)))
theorem onB_iff {a b q : Pt} : onB a b q = true ↔ On a b q := by
  unfold onB On
  simp [Bool.and_eq_true]
theorem e_law_on (a b q : Pt) (s : S) (ha : Sm a) (hb : Sm b) (hq : Sm q) : f_law_on [pairD a, pairD b, pairD q] s = .ok (.bl (onB a b q)) s := by
  have h := fun s => e_law_turn a b q s ha hb hq
  have n1 : (if b.1 < a.1 then b.1 else a.1) = min a.1 b.1 := by omega
  have n2 : (if b.2 < a.2 then b.2 else a.2) = min a.2 b.2 := by omega
  have x1 : (if b.1 > a.1 then b.1 else a.1) = max a.1 b.1 := by omega
  have x2 : (if b.2 > a.2 then b.2 else a.2) = max a.2 b.2 := by omega
  have x1' : (if a.1 < b.1 then b.1 else a.1) = max a.1 b.1 := by omega
  have x2' : (if a.2 < b.2 then b.2 else a.2) = max a.2 b.2 := by omega
  unfold onB
  unfold pairD at h ⊢
  by_cases c : turn a b q = 0
  · by_cases c1 : min a.1 b.1 ≤ q.1
    · by_cases c2 : q.1 ≤ max a.1 b.1
      · by_cases c3 : min a.2 b.2 ≤ q.2
        · simp [f_law_on, m_law_on, h, ne_int, at0, at1, c, n1, n2, x1, x2, x1', x2', c1, c2, c3, fnM, bnd, Mp.ret, lift, stk, seqS, retS, asgS, dropS, ifS, setv, getv, peekv, op1, op2, ap1, ap2, asB, chain2, testM, truM, truO, andV, orV, notV, ifV, andB, orB, notB, argN, argC, mkTup, mkLst, frzd, callM, onMs, subsO, lenO, absO, isiO, D.tg, isTy, tgtT, tgtC, tgtN, par2, par3, forS, seqI, srcD, catO, addO, subO, repO, mulO, fdivO, modO, negO, ltO, leO, gtO, geO, cmpI, gcdO, maxO, minO, intO, tupleO, listO]
        · simp [f_law_on, m_law_on, h, ne_int, at0, at1, c, n1, n2, x1, x2, x1', x2', c1, c2, c3, fnM, bnd, Mp.ret, lift, stk, seqS, retS, asgS, dropS, ifS, setv, getv, peekv, op1, op2, ap1, ap2, asB, chain2, testM, truM, truO, andV, orV, notV, ifV, andB, orB, notB, argN, argC, mkTup, mkLst, frzd, callM, onMs, subsO, lenO, absO, isiO, D.tg, isTy, tgtT, tgtC, tgtN, par2, par3, forS, seqI, srcD, catO, addO, subO, repO, mulO, fdivO, modO, negO, ltO, leO, gtO, geO, cmpI, gcdO, maxO, minO, intO, tupleO, listO]
      · simp [f_law_on, m_law_on, h, ne_int, at0, at1, c, n1, n2, x1, x2, x1', x2', c1, c2, fnM, bnd, Mp.ret, lift, stk, seqS, retS, asgS, dropS, ifS, setv, getv, peekv, op1, op2, ap1, ap2, asB, chain2, testM, truM, truO, andV, orV, notV, ifV, andB, orB, notB, argN, argC, mkTup, mkLst, frzd, callM, onMs, subsO, lenO, absO, isiO, D.tg, isTy, tgtT, tgtC, tgtN, par2, par3, forS, seqI, srcD, catO, addO, subO, repO, mulO, fdivO, modO, negO, ltO, leO, gtO, geO, cmpI, gcdO, maxO, minO, intO, tupleO, listO]
    · simp [f_law_on, m_law_on, h, ne_int, at0, at1, c, n1, n2, x1, x2, x1', x2', c1, fnM, bnd, Mp.ret, lift, stk, seqS, retS, asgS, dropS, ifS, setv, getv, peekv, op1, op2, ap1, ap2, asB, chain2, testM, truM, truO, andV, orV, notV, ifV, andB, orB, notB, argN, argC, mkTup, mkLst, frzd, callM, onMs, subsO, lenO, absO, isiO, D.tg, isTy, tgtT, tgtC, tgtN, par2, par3, forS, seqI, srcD, catO, addO, subO, repO, mulO, fdivO, modO, negO, ltO, leO, gtO, geO, cmpI, gcdO, maxO, minO, intO, tupleO, listO]
  · simp [f_law_on, m_law_on, h, ne_int, at0, at1, c, fnM, bnd, Mp.ret, lift, stk, seqS, retS, asgS, dropS, ifS, setv, getv, peekv, op1, op2, ap1, ap2, asB, chain2, testM, truM, truO, andV, orV, notV, ifV, andB, orB, notB, argN, argC, mkTup, mkLst, frzd, callM, onMs, subsO, lenO, absO, isiO, D.tg, isTy, tgtT, tgtC, tgtN, par2, par3, forS, seqI, srcD, catO, addO, subO, repO, mulO, fdivO, modO, negO, ltO, leO, gtO, geO, cmpI, gcdO, maxO, minO, intO, tupleO, listO]
end K12

set_option linter.all false
set_option maxRecDepth 100000
namespace K12
open Mp Hul
def Sp (p : Pt) : Prop := (-999 ≤ p.1 ∧ p.1 ≤ 999) ∧ (-999 ≤ p.2 ∧ p.2 ≤ 999)
theorem Sp.sm {p : Pt} (h : Sp p) : Sm p := by unfold Sp at h; unfold Sm; omega
theorem e_is_between (a b q : Pt) (s : S) (ha : Sm a) (hb : Sm b) (hq : Sm q) : f_is_between [pairD a, pairD b, pairD q] s = .ok (.bl (onB a b q)) s := by
  have h := fun s => e_turn_of a b q s ha hb hq
  have h1 := fun s => e_way_of q a s
  have h2 := fun s => e_way_of q b s
  have h3 := fun s => e_dot (a.1 - q.1, a.2 - q.2) (b.1 - q.1, b.2 - q.2) s ⟨d22 ha.1 hq.1, d22 ha.2 hq.2⟩ ⟨d22 hb.1 hq.1, d22 hb.2 hq.2⟩
  have k : onB a b q = (decide (turn a b q = 0) && decide (dot (sb a q) (sb b q) ≤ 0)) := by
    rw [Bool.eq_iff_iff, onB_iff, on_dot]
    simp
  rw [k]
  unfold dot sb
  generalize pairD a = A at *
  generalize pairD b = B at *
  generalize pairD q = C at *
  by_cases c : turn a b q = 0
  · simp [f_is_between, m_is_between, h, h1, h2, h3, ne_int, c, fnM, bnd, Mp.ret, lift, stk, seqS, retS, asgS, dropS, ifS, setv, getv, peekv, op1, op2, ap1, ap2, asB, chain2, testM, truM, truO, andV, orV, notV, ifV, andB, orB, notB, argN, argC, mkTup, mkLst, frzd, callM, onMs, subsO, lenO, absO, isiO, D.tg, isTy, tgtT, tgtC, tgtN, par2, par3, forS, seqI, srcD, catO, addO, subO, repO, mulO, fdivO, modO, negO, ltO, leO, gtO, geO, cmpI, gcdO, maxO, minO, intO, tupleO, listO]
  · simp [f_is_between, m_is_between, h, ne_int, c, fnM, bnd, Mp.ret, lift, stk, seqS, retS, asgS, dropS, ifS, setv, getv, peekv, op1, op2, ap1, ap2, asB, chain2, testM, truM, truO, andV, orV, notV, ifV, andB, orB, notB, argN, argC, mkTup, mkLst, frzd, callM, onMs, subsO, lenO, absO, isiO, D.tg, isTy, tgtT, tgtC, tgtN, par2, par3, forS, seqI, srcD, catO, addO, subO, repO, mulO, fdivO, modO, negO, ltO, leO, gtO, geO, cmpI, gcdO, maxO, minO, intO, tupleO, listO]
def besB (a b c d : Pt) : Bool := (decide (turn c d a < 0) && decide (0 < turn c d b)) || (decide (turn c d b < 0) && decide (0 < turn c d a))
theorem besB_iff {a b c d : Pt} : besB a b c d = true ↔ Beside a b c d := by
  unfold besB Beside
  simp
theorem e_is_beside (a b c d : Pt) (s : S) (ha : Sm a) (hb : Sm b) (hc : Sm c) (hd : Sm d) : f_is_beside [pairD a, pairD b, pairD c, pairD d] s = .ok (.bl (besB a b c d)) s := by
  have h1 := fun s => e_turn_of c d a s hc hd ha
  have h2 := fun s => e_turn_of c d b s hc hd hb
  unfold besB
  generalize pairD a = A at *
  generalize pairD b = B at *
  generalize pairD c = C at *
  generalize pairD d = E at *
  by_cases c1 : turn c d a < 0
  · by_cases c2 : 0 < turn c d b
    · simp [f_is_beside, m_is_beside, h1, h2, c1, c2, fnM, bnd, Mp.ret, lift, stk, seqS, retS, asgS, dropS, ifS, setv, getv, peekv, op1, op2, ap1, ap2, asB, chain2, testM, truM, truO, andV, orV, notV, ifV, andB, orB, notB, argN, argC, mkTup, mkLst, frzd, callM, onMs, subsO, lenO, absO, isiO, D.tg, isTy, tgtT, tgtC, tgtN, par2, par3, forS, seqI, srcD, catO, addO, subO, repO, mulO, fdivO, modO, negO, ltO, leO, gtO, geO, cmpI, gcdO, maxO, minO, intO, tupleO, listO]
    · by_cases c3 : turn c d b < 0
      · have c4 : ¬ 0 < turn c d a := by omega
        simp [f_is_beside, m_is_beside, h1, h2, c1, c2, c3, c4, fnM, bnd, Mp.ret, lift, stk, seqS, retS, asgS, dropS, ifS, setv, getv, peekv, op1, op2, ap1, ap2, asB, chain2, testM, truM, truO, andV, orV, notV, ifV, andB, orB, notB, argN, argC, mkTup, mkLst, frzd, callM, onMs, subsO, lenO, absO, isiO, D.tg, isTy, tgtT, tgtC, tgtN, par2, par3, forS, seqI, srcD, catO, addO, subO, repO, mulO, fdivO, modO, negO, ltO, leO, gtO, geO, cmpI, gcdO, maxO, minO, intO, tupleO, listO]
      · simp [f_is_beside, m_is_beside, h1, h2, c1, c2, c3, fnM, bnd, Mp.ret, lift, stk, seqS, retS, asgS, dropS, ifS, setv, getv, peekv, op1, op2, ap1, ap2, asB, chain2, testM, truM, truO, andV, orV, notV, ifV, andB, orB, notB, argN, argC, mkTup, mkLst, frzd, callM, onMs, subsO, lenO, absO, isiO, D.tg, isTy, tgtT, tgtC, tgtN, par2, par3, forS, seqI, srcD, catO, addO, subO, repO, mulO, fdivO, modO, negO, ltO, leO, gtO, geO, cmpI, gcdO, maxO, minO, intO, tupleO, listO]
  · by_cases c3 : turn c d b < 0
    · by_cases c4 : 0 < turn c d a
      · simp [f_is_beside, m_is_beside, h1, h2, c1, c3, c4, fnM, bnd, Mp.ret, lift, stk, seqS, retS, asgS, dropS, ifS, setv, getv, peekv, op1, op2, ap1, ap2, asB, chain2, testM, truM, truO, andV, orV, notV, ifV, andB, orB, notB, argN, argC, mkTup, mkLst, frzd, callM, onMs, subsO, lenO, absO, isiO, D.tg, isTy, tgtT, tgtC, tgtN, par2, par3, forS, seqI, srcD, catO, addO, subO, repO, mulO, fdivO, modO, negO, ltO, leO, gtO, geO, cmpI, gcdO, maxO, minO, intO, tupleO, listO]
      · simp [f_is_beside, m_is_beside, h1, h2, c1, c3, c4, fnM, bnd, Mp.ret, lift, stk, seqS, retS, asgS, dropS, ifS, setv, getv, peekv, op1, op2, ap1, ap2, asB, chain2, testM, truM, truO, andV, orV, notV, ifV, andB, orB, notB, argN, argC, mkTup, mkLst, frzd, callM, onMs, subsO, lenO, absO, isiO, D.tg, isTy, tgtT, tgtC, tgtN, par2, par3, forS, seqI, srcD, catO, addO, subO, repO, mulO, fdivO, modO, negO, ltO, leO, gtO, geO, cmpI, gcdO, maxO, minO, intO, tupleO, listO]
    · simp [f_is_beside, m_is_beside, h1, h2, c1, c3, fnM, bnd, Mp.ret, lift, stk, seqS, retS, asgS, dropS, ifS, setv, getv, peekv, op1, op2, ap1, ap2, asB, chain2, testM, truM, truO, andV, orV, notV, ifV, andB, orB, notB, argN, argC, mkTup, mkLst, frzd, callM, onMs, subsO, lenO, absO, isiO, D.tg, isTy, tgtT, tgtC, tgtN, par2, par3, forS, seqI, srcD, catO, addO, subO, repO, mulO, fdivO, modO, negO, ltO, leO, gtO, geO, cmpI, gcdO, maxO, minO, intO, tupleO, listO]
def meetB (a b c d : Pt) : Bool := (besB a b c d && besB c d a b) || (onB a b c || (onB a b d || (onB c d a || onB c d b)))
theorem meetB_iff {a b c d : Pt} : meetB a b c d = true ↔ Meet a b c d := by
  unfold meetB Meet
  simp only [Bool.or_eq_true, Bool.and_eq_true, besB_iff, onB_iff]
theorem e_do_meet (a b c d : Pt) (s : S) (ha : Sm a) (hb : Sm b) (hc : Sm c) (hd : Sm d) : f_do_meet [pairD a, pairD b, pairD c, pairD d] s = .ok (.bl (meetB a b c d)) s := by
  have h1 := fun s => e_is_beside a b c d s ha hb hc hd
  have h2 := fun s => e_is_beside c d a b s hc hd ha hb
  have h3 := fun s => e_is_between a b c s ha hb hc
  have h4 := fun s => e_is_between a b d s ha hb hd
  have h5 := fun s => e_is_between c d a s hc hd ha
  have h6 := fun s => e_is_between c d b s hc hd hb
  unfold meetB
  generalize pairD a = A at *
  generalize pairD b = B at *
  generalize pairD c = C at *
  generalize pairD d = E at *
  generalize besB a b c d = x1 at *
  generalize besB c d a b = x2 at *
  generalize onB a b c = x3 at *
  generalize onB a b d = x4 at *
  generalize onB c d a = x5 at *
  generalize onB c d b = x6 at *
  cases x1 <;> cases x2 <;> cases x3 <;> cases x4 <;> cases x5 <;> cases x6 <;> simp [f_do_meet, m_do_meet, h1, h2, h3, h4, h5, h6, fnM, bnd, Mp.ret, lift, stk, seqS, retS, asgS, dropS, ifS, setv, getv, peekv, op1, op2, ap1, ap2, asB, chain2, testM, truM, truO, andV, orV, notV, ifV, andB, orB, notB, argN, argC, mkTup, mkLst, frzd, callM, onMs, subsO, lenO, absO, isiO, D.tg, isTy, tgtT, tgtC, tgtN, par2, par3, forS, seqI, srcD, catO, addO, subO, repO, mulO, fdivO, modO, negO, ltO, leO, gtO, geO, cmpI, gcdO, maxO, minO, intO, tupleO, listO]
theorem e_is_spot (p : Pt) (s : S) (hp : Sp p) : f_is_spot [pairD p] s = .ok (.bl true) s := by
  obtain ⟨⟨h1, h2⟩, h3, h4⟩ := hp
  simp [f_is_spot, m_is_spot, c1_is_spot, ce1_is_spot, f_is_row, m_is_row, f_is_within, m_is_within, f_is_integer, m_is_integer, pairD, eq_int, lcM, lcL, lcT, yesM, wipeE, restE, keepVal, allO, bools, h1, h2, h3, h4, fnM, bnd, Mp.ret, lift, stk, seqS, retS, asgS, dropS, ifS, setv, getv, peekv, op1, op2, ap1, ap2, asB, chain2, testM, truM, truO, andV, orV, notV, ifV, andB, orB, notB, argN, argC, mkTup, mkLst, frzd, callM, onMs, subsO, lenO, absO, isiO, D.tg, isTy, tgtT, tgtC, tgtN, par2, par3, forS, seqI, srcD, catO, addO, subO, repO, mulO, fdivO, modO, negO, ltO, leO, gtO, geO, cmpI, gcdO, maxO, minO, intO, tupleO, listO]
theorem e_want_spot (p : Pt) (s : S) (hp : Sp p) : f_want_spot [pairD p] s = .ok (pairD p) s := by
  have h := fun s => e_is_spot p s hp
  generalize pairD p = P at *
  simp [f_want_spot, m_want_spot, h, fnM, bnd, Mp.ret, lift, stk, seqS, retS, asgS, dropS, ifS, setv, getv, peekv, op1, op2, ap1, ap2, asB, chain2, testM, truM, truO, andV, orV, notV, ifV, andB, orB, notB, argN, argC, mkTup, mkLst, frzd, callM, onMs, subsO, lenO, absO, isiO, D.tg, isTy, tgtT, tgtC, tgtN, par2, par3, forS, seqI, srcD, catO, addO, subO, repO, mulO, fdivO, modO, negO, ltO, leO, gtO, geO, cmpI, gcdO, maxO, minO, intO, tupleO, listO]
end K12

set_option linter.all false
set_option maxRecDepth 100000
namespace K12
open Mp Hul
theorem e_turn (a b c : Pt) (s : S) (ha : Sp a) (hb : Sp b) (hc : Sp c) : f_turn [pairD a, pairD b, pairD c] s = .ok (.int (turn a b c)) s := by
  have h1 := fun s => e_want_spot a s ha
  have h2 := fun s => e_want_spot b s hb
  have h3 := fun s => e_want_spot c s hc
  have h4 := fun s => e_turn_of a b c s ha.sm hb.sm hc.sm
  generalize pairD a = A at *
  generalize pairD b = B at *
  generalize pairD c = C at *
  simp [f_turn, m_turn, h1, h2, h3, h4, fnM, bnd, Mp.ret, lift, stk, seqS, retS, asgS, dropS, ifS, setv, getv, peekv, op1, op2, ap1, ap2, asB, chain2, testM, truM, truO, andV, orV, notV, ifV, andB, orB, notB, argN, argC, mkTup, mkLst, frzd, callM, onMs, subsO, lenO, absO, isiO, D.tg, isTy, tgtT, tgtC, tgtN, par2, par3, forS, seqI, srcD, catO, addO, subO, repO, mulO, fdivO, modO, negO, ltO, leO, gtO, geO, cmpI, gcdO, maxO, minO, intO, tupleO, listO]
theorem e_have_common (a b c d : Pt) (s : S) (ha : Sp a) (hb : Sp b) (hc : Sp c) (hd : Sp d) : f_have_common [pairD a, pairD b, pairD c, pairD d] s = .ok (.bl (meetB a b c d)) s := by
  have h1 := fun s => e_want_spot a s ha
  have h2 := fun s => e_want_spot b s hb
  have h3 := fun s => e_want_spot c s hc
  have h4 := fun s => e_want_spot d s hd
  have h5 := fun s => e_do_meet a b c d s ha.sm hb.sm hc.sm hd.sm
  generalize pairD a = A at *
  generalize pairD b = B at *
  generalize pairD c = C at *
  generalize pairD d = E at *
  simp [f_have_common, m_have_common, l1_have_common, lb1_have_common, forL, h1, h2, h3, h4, h5, fnM, bnd, Mp.ret, lift, stk, seqS, retS, asgS, dropS, ifS, setv, getv, peekv, op1, op2, ap1, ap2, asB, chain2, testM, truM, truO, andV, orV, notV, ifV, andB, orB, notB, argN, argC, mkTup, mkLst, frzd, callM, onMs, subsO, lenO, absO, isiO, D.tg, isTy, tgtT, tgtC, tgtN, par2, par3, forS, seqI, srcD, catO, addO, subO, repO, mulO, fdivO, modO, negO, ltO, leO, gtO, geO, cmpI, gcdO, maxO, minO, intO, tupleO, listO]
/-- the law's own word on common points -/
def comB (a b c d : Pt) : Bool :=
  let u := cr (sb b a) (sb d c)
  if u ≠ 0 then
    let s : Int := if 0 < u then 1 else -1
    let near := s * cr (sb c a) (sb d c)
    let far := s * cr (sb c a) (sb b a)
    let m := if u < 0 then -u else u
    (decide (0 ≤ near) && decide (near ≤ m)) && (decide (0 ≤ far) && decide (far ≤ m))
  else onB a b c || (onB a b d || (onB c d a || onB c d b))
theorem comB_meet (a b c d : Pt) : comB a b c d = meetB a b c d := by
  rw [Bool.eq_iff_iff, meetB_iff]
  have eA : cr (sb c a) (sb d c) = turn c d a := by unfold turn cr sb; grind
  have eB : turn c d b = turn c d a - cr (sb b a) (sb d c) := by unfold turn cr sb; grind
  have eC : cr (sb c a) (sb b a) = -turn a b c := by unfold turn cr sb; grind
  have eD : turn a b d = turn a b c + cr (sb b a) (sb d c) := by unfold turn cr sb; grind
  unfold comB
  simp only [eA, eC]
  rcases Int.lt_or_le 0 (cr (sb b a) (sb d c)) with h | h
  · rw [meet_sign h, eB, eD]
    generalize cr (sb b a) (sb d c) = u at *
    rw [if_pos (by omega), if_pos h, if_neg (by omega)]
    simp only [Bool.and_eq_true, decide_eq_true_eq]
    omega
  · rcases Int.lt_or_le (cr (sb b a) (sb d c)) 0 with h2 | h2
    · rw [meet_sign2 h2, eB, eD]
      generalize cr (sb b a) (sb d c) = u at *
      rw [if_pos (by omega), if_neg (by omega), if_pos h2]
      simp only [Bool.and_eq_true, decide_eq_true_eq]
      omega
    · have z : cr (sb b a) (sb d c) = 0 := by omega
      rw [meet_par z, if_neg (by omega)]
      simp only [Bool.or_eq_true, onB_iff]
theorem cr46 {u v : Pt} (hu : u.1.natAbs < 2 ^ 22 ∧ u.2.natAbs < 2 ^ 22) (hv : v.1.natAbs < 2 ^ 22 ∧ v.2.natAbs < 2 ^ 22) : (u.1 * v.2 - u.2 * v.1).natAbs < 2 ^ 46 := by
  have a := bits_mul hu.1 hv.2
  have b := bits_mul hu.2 hv.1
  omega
theorem e_law_common (a b c d : Pt) (s : S) (ha : Sm a) (hb : Sm b) (hc : Sm c) (hd : Sm d) : f_law_common [pairD a, pairD b, pairD c, pairD d] s = .ok (.bl (meetB a b c d)) s := by
  rw [← comB_meet]
  have h3 := fun s => e_law_on a b c s ha hb hc
  have h4 := fun s => e_law_on a b d s ha hb hd
  have h5 := fun s => e_law_on c d a s hc hd ha
  have h6 := fun s => e_law_on c d b s hc hd hb
  have u1 := d22 hb.1 ha.1
  have u2 := d22 hb.2 ha.2
  have v1 := d22 hd.1 hc.1
  have v2 := d22 hd.2 hc.2
  have w1 := d22 hc.1 ha.1
  have w2 := d22 hc.2 ha.2
  have m1 := m22 u1 v2
  have m2 := m22 u2 v1
  have m3 := m22 w1 v2
  have m4 := m22 w2 v1
  have m5 := m22 w1 u2
  have m6 := m22 w2 u1
  have b1 : ((c.1 - a.1) * (d.2 - c.2) - (c.2 - a.2) * (d.1 - c.1)).natAbs < 2 ^ 46 := cr46 (u := (c.1 - a.1, c.2 - a.2)) (v := (d.1 - c.1, d.2 - c.2)) ⟨w1, w2⟩ ⟨v1, v2⟩
  have b2 : ((c.1 - a.1) * (b.2 - a.2) - (c.2 - a.2) * (b.1 - a.1)).natAbs < 2 ^ 46 := cr46 (u := (c.1 - a.1, c.2 - a.2)) (v := (b.1 - a.1, b.2 - a.2)) ⟨w1, w2⟩ ⟨u1, u2⟩
  have n1 : ∀ s : Int, s.natAbs < 2 ^ 22 → mulOk s ((c.1 - a.1) * (d.2 - c.2) - (c.2 - a.2) * (d.1 - c.1)) = true := fun s h => mulOk_of h b1 (by decide)
  have n2 : ∀ s : Int, s.natAbs < 2 ^ 22 → mulOk s ((c.1 - a.1) * (b.2 - a.2) - (c.2 - a.2) * (b.1 - a.1)) = true := fun s h => mulOk_of h b2 (by decide)
  have n1a := n1 1 (by decide)
  have n1b := n1 (-1) (by decide)
  have n2a := n2 1 (by decide)
  have n2b := n2 (-1) (by decide)
  unfold comB cr sb
  simp only
  unfold pairD at *
  by_cases z : (b.1 - a.1) * (d.2 - c.2) - (b.2 - a.2) * (d.1 - c.1) = 0
  · rw [if_neg (by simpa using z)]
    generalize onB a b c = x3 at *
    generalize onB a b d = x4 at *
    generalize onB c d a = x5 at *
    generalize onB c d b = x6 at *
    cases x3 <;> cases x4 <;> cases x5 <;> cases x6 <;> simp [f_law_common, m_law_common, at0, at1, m1, m2, ne_int, z, h3, h4, h5, h6, fnM, bnd, Mp.ret, lift, stk, seqS, retS, asgS, dropS, ifS, setv, getv, peekv, op1, op2, ap1, ap2, asB, chain2, testM, truM, truO, andV, orV, notV, ifV, andB, orB, notB, argN, argC, mkTup, mkLst, frzd, callM, onMs, subsO, lenO, absO, isiO, D.tg, isTy, tgtT, tgtC, tgtN, par2, par3, forS, seqI, srcD, catO, addO, subO, repO, mulO, fdivO, modO, negO, ltO, leO, gtO, geO, cmpI, gcdO, maxO, minO, intO, tupleO, listO]
  · rw [if_pos z]
    generalize hU : (b.1 - a.1) * (d.2 - c.2) - (b.2 - a.2) * (d.1 - c.1) = U at *
    generalize hN : (c.1 - a.1) * (d.2 - c.2) - (c.2 - a.2) * (d.1 - c.1) = N at *
    generalize hF : (c.1 - a.1) * (b.2 - a.2) - (c.2 - a.2) * (b.1 - a.1) = F at *
    by_cases p : 0 < U
    · have p2 : ¬ U < 0 := by omega
      rw [if_pos p, if_neg p2]
      by_cases c1 : 0 ≤ N
      · by_cases c2 : N ≤ U
        · by_cases c3 : 0 ≤ F
          · simp [f_law_common, m_law_common, at0, at1, m1, m2, m3, m4, m5, m6, n1a, n2a, ne_int, z, hU, hN, hF, p, p2, c1, c2, c3, fnM, bnd, Mp.ret, lift, stk, seqS, retS, asgS, dropS, ifS, setv, getv, peekv, op1, op2, ap1, ap2, asB, chain2, testM, truM, truO, andV, orV, notV, ifV, andB, orB, notB, argN, argC, mkTup, mkLst, frzd, callM, onMs, subsO, lenO, absO, isiO, D.tg, isTy, tgtT, tgtC, tgtN, par2, par3, forS, seqI, srcD, catO, addO, subO, repO, mulO, fdivO, modO, negO, ltO, leO, gtO, geO, cmpI, gcdO, maxO, minO, intO, tupleO, listO]
          · simp [f_law_common, m_law_common, at0, at1, m1, m2, m3, m4, m5, m6, n1a, n2a, ne_int, z, hU, hN, hF, p, p2, c1, c2, c3, fnM, bnd, Mp.ret, lift, stk, seqS, retS, asgS, dropS, ifS, setv, getv, peekv, op1, op2, ap1, ap2, asB, chain2, testM, truM, truO, andV, orV, notV, ifV, andB, orB, notB, argN, argC, mkTup, mkLst, frzd, callM, onMs, subsO, lenO, absO, isiO, D.tg, isTy, tgtT, tgtC, tgtN, par2, par3, forS, seqI, srcD, catO, addO, subO, repO, mulO, fdivO, modO, negO, ltO, leO, gtO, geO, cmpI, gcdO, maxO, minO, intO, tupleO, listO]
        · simp [f_law_common, m_law_common, at0, at1, m1, m2, m3, m4, m5, m6, n1a, n2a, ne_int, z, hU, hN, hF, p, p2, c1, c2, fnM, bnd, Mp.ret, lift, stk, seqS, retS, asgS, dropS, ifS, setv, getv, peekv, op1, op2, ap1, ap2, asB, chain2, testM, truM, truO, andV, orV, notV, ifV, andB, orB, notB, argN, argC, mkTup, mkLst, frzd, callM, onMs, subsO, lenO, absO, isiO, D.tg, isTy, tgtT, tgtC, tgtN, par2, par3, forS, seqI, srcD, catO, addO, subO, repO, mulO, fdivO, modO, negO, ltO, leO, gtO, geO, cmpI, gcdO, maxO, minO, intO, tupleO, listO]
      · simp [f_law_common, m_law_common, at0, at1, m1, m2, m3, m4, m5, m6, n1a, n2a, ne_int, z, hU, hN, hF, p, p2, c1, fnM, bnd, Mp.ret, lift, stk, seqS, retS, asgS, dropS, ifS, setv, getv, peekv, op1, op2, ap1, ap2, asB, chain2, testM, truM, truO, andV, orV, notV, ifV, andB, orB, notB, argN, argC, mkTup, mkLst, frzd, callM, onMs, subsO, lenO, absO, isiO, D.tg, isTy, tgtT, tgtC, tgtN, par2, par3, forS, seqI, srcD, catO, addO, subO, repO, mulO, fdivO, modO, negO, ltO, leO, gtO, geO, cmpI, gcdO, maxO, minO, intO, tupleO, listO]
    · have p2 : U < 0 := by omega
      rw [if_neg p, if_pos p2]
      by_cases c1 : N ≤ 0
      · by_cases c2 : U ≤ N
        · by_cases c3 : F ≤ 0
          · simp [f_law_common, m_law_common, at0, at1, m1, m2, m3, m4, m5, m6, n1b, n2b, ne_int, z, hU, hN, hF, p, p2, c1, c2, c3, fnM, bnd, Mp.ret, lift, stk, seqS, retS, asgS, dropS, ifS, setv, getv, peekv, op1, op2, ap1, ap2, asB, chain2, testM, truM, truO, andV, orV, notV, ifV, andB, orB, notB, argN, argC, mkTup, mkLst, frzd, callM, onMs, subsO, lenO, absO, isiO, D.tg, isTy, tgtT, tgtC, tgtN, par2, par3, forS, seqI, srcD, catO, addO, subO, repO, mulO, fdivO, modO, negO, ltO, leO, gtO, geO, cmpI, gcdO, maxO, minO, intO, tupleO, listO]
          · simp [f_law_common, m_law_common, at0, at1, m1, m2, m3, m4, m5, m6, n1b, n2b, ne_int, z, hU, hN, hF, p, p2, c1, c2, c3, fnM, bnd, Mp.ret, lift, stk, seqS, retS, asgS, dropS, ifS, setv, getv, peekv, op1, op2, ap1, ap2, asB, chain2, testM, truM, truO, andV, orV, notV, ifV, andB, orB, notB, argN, argC, mkTup, mkLst, frzd, callM, onMs, subsO, lenO, absO, isiO, D.tg, isTy, tgtT, tgtC, tgtN, par2, par3, forS, seqI, srcD, catO, addO, subO, repO, mulO, fdivO, modO, negO, ltO, leO, gtO, geO, cmpI, gcdO, maxO, minO, intO, tupleO, listO]
        · simp [f_law_common, m_law_common, at0, at1, m1, m2, m3, m4, m5, m6, n1b, n2b, ne_int, z, hU, hN, hF, p, p2, c1, c2, fnM, bnd, Mp.ret, lift, stk, seqS, retS, asgS, dropS, ifS, setv, getv, peekv, op1, op2, ap1, ap2, asB, chain2, testM, truM, truO, andV, orV, notV, ifV, andB, orB, notB, argN, argC, mkTup, mkLst, frzd, callM, onMs, subsO, lenO, absO, isiO, D.tg, isTy, tgtT, tgtC, tgtN, par2, par3, forS, seqI, srcD, catO, addO, subO, repO, mulO, fdivO, modO, negO, ltO, leO, gtO, geO, cmpI, gcdO, maxO, minO, intO, tupleO, listO]
      · simp [f_law_common, m_law_common, at0, at1, m1, m2, m3, m4, m5, m6, n1b, n2b, ne_int, z, hU, hN, hF, p, p2, c1, fnM, bnd, Mp.ret, lift, stk, seqS, retS, asgS, dropS, ifS, setv, getv, peekv, op1, op2, ap1, ap2, asB, chain2, testM, truM, truO, andV, orV, notV, ifV, andB, orB, notB, argN, argC, mkTup, mkLst, frzd, callM, onMs, subsO, lenO, absO, isiO, D.tg, isTy, tgtT, tgtC, tgtN, par2, par3, forS, seqI, srcD, catO, addO, subO, repO, mulO, fdivO, modO, negO, ltO, leO, gtO, geO, cmpI, gcdO, maxO, minO, intO, tupleO, listO]
end K12

set_option linter.all false
set_option maxRecDepth 100000
namespace K12
open Mp Hul
theorem rng04 : rangeD 0 4 = [.int 0, .int 1, .int 2, .int 3] := by simp [rangeD, List.range, List.range.loop]
theorem list4 {P : D → Prop} {ys : List D} (h : ys.length = 4) (hp : ∀ y ∈ ys, P y) : ∃ a b c d, ys = [a, b, c, d] ∧ P a ∧ P b ∧ P c ∧ P d := by
  match ys, h with
  | [a, b, c, d], _ => exact ⟨a, b, c, d, rfl, hp a (by simp), hp b (by simp), hp c (by simp), hp d (by simp)⟩
theorem k_four (n : Nat) (hn : n < 2) (s : S) (ht : Two s.ms) : ∃ (a b c d : Pt) (ms' : List (List D)), f_law_four [.ref n] s = .ok (.lst [pairD a, pairD b, pairD c, pairD d]) ⟨s.env, ms'⟩ ∧ Sp a ∧ Sp b ∧ Sp c ∧ Sp d ∧ Two ms' := by
  obtain ⟨top, ms1, e1, m1, t1⟩ := k_pick n hn [.int 2, .int 4, .int 999] ⟨[], s.ms⟩ ht (by simp) (by simp)
  obtain ⟨m, rfl, hm0, hm1⟩ : ∃ m : Int, top = .int m ∧ 2 ≤ m ∧ m ≤ 999 := by
    simp only [List.mem_cons, List.not_mem_nil, or_false] at m1
    rcases m1 with rfl | rfl | rfl
    · exact ⟨2, rfl, by decide, by decide⟩
    · exact ⟨4, rfl, by decide, by decide⟩
    · exact ⟨999, rfl, by decide, by decide⟩
  have mo : mulOk 2 m = true := mulOk_of (n := 20) (m := 20) (by decide) (by omega) (by decide)
  obtain ⟨ys, ms2, e2, t2, l2, p2⟩ := lcM_inv (vs := [4]) (src := overA rng1O (argC (ret (.int 4)) argN)) (t := setv 4) (c := yesM) (f := ce3_law_four) Two (fun y => ∃ p : Pt, y = pairD p ∧ Sp p) (s := ⟨[.val (.ref n), .val (.int m), .un, .un, .un], ms1⟩) (s1 := ⟨[.val (.ref n), .val (.int m), .un, .un, .un], ms1⟩) (xs := [.int 0, .int 1, .int 2, .int 3]) (by
      simp [overA, rng1O, rng04, fnM, bnd, Mp.ret, lift, stk, seqS, retS, asgS, dropS, ifS, setv, getv, peekv, op1, op2, ap1, ap2, asB, chain2, testM, truM, truO, andV, orV, notV, ifV, andB, orB, notB, argN, argC, mkTup, mkLst, frzd, callM, onMs, subsO, lenO, absO, isiO, D.tg, isTy, tgtT, tgtC, tgtN, par2, par3, forS, seqI, srcD, catO, addO, subO, repO, mulO, fdivO, modO, negO, ltO, leO, gtO, geO, cmpI, gcdO, maxO, minO, intO, tupleO, listO]) (by simp) (by simp) t1 (by
      intro x _ ms tms
      obtain ⟨k1, msA, d1, k10, k11, tA⟩ := k_draw n hn (2 * m + 1) ⟨[], ms⟩ tms (by omega) (by omega)
      obtain ⟨k2, msB, d2, k20, k21, tB⟩ := k_draw n hn (2 * m + 1) ⟨[], msA⟩ tA (by omega) (by omega)
      refine ⟨pairD (k1 - m, k2 - m), [.val (.ref n), .val (.int m), .un, .un, .val x], msB, ?_, by simp [wipeE], tB, (k1 - m, k2 - m), rfl, ⟨by simp only; omega, by simp only; omega⟩⟩
      simp [lcT, wipeE, yesM, ce3_law_four, mo, d1, d2, pairD, fnM, bnd, Mp.ret, lift, stk, seqS, retS, asgS, dropS, ifS, setv, getv, peekv, op1, op2, ap1, ap2, asB, chain2, testM, truM, truO, andV, orV, notV, ifV, andB, orB, notB, argN, argC, mkTup, mkLst, frzd, callM, onMs, subsO, lenO, absO, isiO, D.tg, isTy, tgtT, tgtC, tgtN, par2, par3, forS, seqI, srcD, catO, addO, subO, repO, mulO, fdivO, modO, negO, ltO, leO, gtO, geO, cmpI, gcdO, maxO, minO, intO, tupleO, listO])
  obtain ⟨a, b, c, d, rfl, ⟨pa, rfl, ha⟩, ⟨pb, rfl, hb⟩, ⟨pc, rfl, hc⟩, ⟨pd, rfl, hd⟩⟩ := list4 l2 p2
  have c3 : c3_law_four ⟨[.val (.ref n), .val (.int m), .un, .un, .un], ms1⟩ = .ok [pairD pa, pairD pb, pairD pc, pairD pd] ⟨[.val (.ref n), .val (.int m), .un, .un, .un], ms2⟩ := by
    unfold c3_law_four
    rw [e2]
    simp [restE, wipeE, keepVal]
  obtain ⟨k, ms3, e3, k0, k1, t3⟩ := k_draw n hn 4 ⟨[], ms2⟩ t2 (by decide) (by decide)
  by_cases hk : k = 0
  · subst hk
    obtain ⟨zs, ms4, e4, t4, l4, pz⟩ := lcM_inv (vs := [4]) (src := overA rng1O (argC (ret (.int 4)) argN)) (t := setv 4) (c := yesM) (f := ce2_law_four) Two (fun y => ∃ i : Int, y = .int i ∧ -3 ≤ i ∧ i ≤ 3) (s := ⟨[.val (.ref n), .val (.int m), .val (.lst [pairD pa, pairD pb, pairD pc, pairD pd]), .un, .un], ms3⟩) (s1 := ⟨[.val (.ref n), .val (.int m), .val (.lst [pairD pa, pairD pb, pairD pc, pairD pd]), .un, .un], ms3⟩) (xs := [.int 0, .int 1, .int 2, .int 3]) (by
        simp [overA, rng1O, rng04, fnM, bnd, Mp.ret, lift, stk, seqS, retS, asgS, dropS, ifS, setv, getv, peekv, op1, op2, ap1, ap2, asB, chain2, testM, truM, truO, andV, orV, notV, ifV, andB, orB, notB, argN, argC, mkTup, mkLst, frzd, callM, onMs, subsO, lenO, absO, isiO, D.tg, isTy, tgtT, tgtC, tgtN, par2, par3, forS, seqI, srcD, catO, addO, subO, repO, mulO, fdivO, modO, negO, ltO, leO, gtO, geO, cmpI, gcdO, maxO, minO, intO, tupleO, listO]) (by simp) (by simp) t3 (by
        intro x _ ms tms
        obtain ⟨k1, msA, d1, k10, k11, tA⟩ := k_draw n hn 7 ⟨[], ms⟩ tms (by decide) (by decide)
        refine ⟨.int (k1 - 3), [.val (.ref n), .val (.int m), .val (.lst [pairD pa, pairD pb, pairD pc, pairD pd]), .un, .val x], msA, ?_, by simp [wipeE], tA, k1 - 3, rfl, by omega, by omega⟩
        simp [lcT, wipeE, yesM, ce2_law_four, d1, fnM, bnd, Mp.ret, lift, stk, seqS, retS, asgS, dropS, ifS, setv, getv, peekv, op1, op2, ap1, ap2, asB, chain2, testM, truM, truO, andV, orV, notV, ifV, andB, orB, notB, argN, argC, mkTup, mkLst, frzd, callM, onMs, subsO, lenO, absO, isiO, D.tg, isTy, tgtT, tgtC, tgtN, par2, par3, forS, seqI, srcD, catO, addO, subO, repO, mulO, fdivO, modO, negO, ltO, leO, gtO, geO, cmpI, gcdO, maxO, minO, intO, tupleO, listO])
    obtain ⟨z1, z2, z3, z4, rfl, ⟨i1, rfl, p1⟩, ⟨i2, rfl, p2⟩, ⟨i3, rfl, p3⟩, ⟨i4, rfl, p4⟩⟩ := list4 l4 pz
    have c2 : c2_law_four ⟨[.val (.ref n), .val (.int m), .val (.lst [pairD pa, pairD pb, pairD pc, pairD pd]), .un, .un], ms3⟩ = .ok [.int i1, .int i2, .int i3, .int i4] ⟨[.val (.ref n), .val (.int m), .val (.lst [pairD pa, pairD pb, pairD pc, pairD pd]), .un, .un], ms4⟩ := by
      unfold c2_law_four
      rw [e4]
      simp [restE, wipeE, keepVal]
    have dv : divOk 9 = true := by decide
    have x1 : ∀ i : Int, -3 ≤ i ∧ i ≤ 3 → mulOk i 3 = true := fun i h => mulOk_of (n := 20) (m := 20) (by omega) (by decide) (by decide)
    have x2 : ∀ i : Int, -3 ≤ i ∧ i ≤ 3 → mulOk i 2 = true := fun i h => mulOk_of (n := 20) (m := 20) (by omega) (by decide) (by decide)
    have q1 : pa.1.fdiv 9 = pa.1 / 9 := Int.fdiv_eq_ediv_of_nonneg _ (by decide)
    have q2 : pa.2.fdiv 9 = pa.2 / 9 := Int.fdiv_eq_ediv_of_nonneg _ (by decide)
    have spn : ∀ i : Int, -3 ≤ i ∧ i ≤ 3 → Sp (pa.1 / 9 + i * 3, pa.2 / 9 + i * 2) := fun i h => by
      unfold Sp at *
      simp only
      omega
    have c1 : c1_law_four ⟨[.val (.ref n), .val (.int m), .val (.lst [pairD pa, pairD pb, pairD pc, pairD pd]), .val (.lst [.int i1, .int i2, .int i3, .int i4]), .un], ms4⟩ = .ok [pairD (pa.1 / 9 + i1 * 3, pa.2 / 9 + i1 * 2), pairD (pa.1 / 9 + i2 * 3, pa.2 / 9 + i2 * 2), pairD (pa.1 / 9 + i3 * 3, pa.2 / 9 + i3 * 2), pairD (pa.1 / 9 + i4 * 3, pa.2 / 9 + i4 * 2)] ⟨[.val (.ref n), .val (.int m), .val (.lst [pairD pa, pairD pb, pairD pc, pairD pd]), .val (.lst [.int i1, .int i2, .int i3, .int i4]), .un], ms4⟩ := by
      have turnE : ∀ i : Int, (-3 ≤ i ∧ i ≤ 3) → ce1_law_four ⟨[.val (.ref n), .val (.int m), .val (.lst [pairD pa, pairD pb, pairD pc, pairD pd]), .val (.lst [.int i1, .int i2, .int i3, .int i4]), .val (.int i)], ms4⟩ = .ok (pairD (pa.1 / 9 + i * 3, pa.2 / 9 + i * 2)) ⟨[.val (.ref n), .val (.int m), .val (.lst [pairD pa, pairD pb, pairD pc, pairD pd]), .val (.lst [.int i1, .int i2, .int i3, .int i4]), .val (.int i)], ms4⟩ := fun i h => by
        simp [ce1_law_four, at0, at1, pairD, x1 i h, x2 i h, dv, q1, q2, fnM, bnd, Mp.ret, lift, stk, seqS, retS, asgS, dropS, ifS, setv, getv, peekv, op1, op2, ap1, ap2, asB, chain2, testM, truM, truO, andV, orV, notV, ifV, andB, orB, notB, argN, argC, mkTup, mkLst, frzd, callM, onMs, subsO, lenO, absO, isiO, D.tg, isTy, tgtT, tgtC, tgtN, par2, par3, forS, seqI, srcD, catO, addO, subO, repO, mulO, fdivO, modO, negO, ltO, leO, gtO, geO, cmpI, gcdO, maxO, minO, intO, tupleO, listO]
      unfold c1_law_four
      generalize hL : D.lst [pairD pa, pairD pb, pairD pc, pairD pd] = L at *
      simp [lcM, lcL, lcT, yesM, wipeE, restE, keepVal, turnE i1 p1, turnE i2 p2, turnE i3 p3, turnE i4 p4, fnM, bnd, Mp.ret, lift, stk, seqS, retS, asgS, dropS, ifS, setv, getv, peekv, op1, op2, ap1, ap2, asB, chain2, testM, truM, truO, andV, orV, notV, ifV, andB, orB, notB, argN, argC, mkTup, mkLst, frzd, callM, onMs, subsO, lenO, absO, isiO, D.tg, isTy, tgtT, tgtC, tgtN, par2, par3, forS, seqI, srcD, catO, addO, subO, repO, mulO, fdivO, modO, negO, ltO, leO, gtO, geO, cmpI, gcdO, maxO, minO, intO, tupleO, listO]
    refine ⟨_, _, _, _, ms4, ?_, spn i1 p1, spn i2 p2, spn i3 p3, spn i4 p4, t4⟩
    simp [f_law_four, m_law_four, e1, c3, e3, c2, c1, eq_int, fnM, bnd, Mp.ret, lift, stk, seqS, retS, asgS, dropS, ifS, setv, getv, peekv, op1, op2, ap1, ap2, asB, chain2, testM, truM, truO, andV, orV, notV, ifV, andB, orB, notB, argN, argC, mkTup, mkLst, frzd, callM, onMs, subsO, lenO, absO, isiO, D.tg, isTy, tgtT, tgtC, tgtN, par2, par3, forS, seqI, srcD, catO, addO, subO, repO, mulO, fdivO, modO, negO, ltO, leO, gtO, geO, cmpI, gcdO, maxO, minO, intO, tupleO, listO]
  · refine ⟨pa, pb, pc, pd, ms3, ?_, ha, hb, hc, hd, t3⟩
    simp [f_law_four, m_law_four, e1, c3, e3, eq_int, hk, fnM, bnd, Mp.ret, lift, stk, seqS, retS, asgS, dropS, ifS, setv, getv, peekv, op1, op2, ap1, ap2, asB, chain2, testM, truM, truO, andV, orV, notV, ifV, andB, orB, notB, argN, argC, mkTup, mkLst, frzd, callM, onMs, subsO, lenO, absO, isiO, D.tg, isTy, tgtT, tgtC, tgtN, par2, par3, forS, seqI, srcD, catO, addO, subO, repO, mulO, fdivO, modO, negO, ltO, leO, gtO, geO, cmpI, gcdO, maxO, minO, intO, tupleO, listO]
end K12

set_option linter.all false
set_option maxRecDepth 100000
namespace Mp
open PySem (PyData)
structure Sw (w e : Nat) (y : PyData) : Prop where
  s : y.showable = true
  d : y.depth ≤ e
  l : y.leavesShort 2000 = true
  h : y.hasDict = false
  b : y.bulk ≤ w
structure SwA (w e : Nat) (ys : List PyData) : Prop where
  s : PyData.showableAll ys = true
  d : PyData.depthAll ys ≤ e
  l : PyData.leavesShortAll 2000 ys = true
  h : PyData.hasDictAll ys = false
  b : PyData.bulkAll ys ≤ w
theorem Sw.bl (b : Bool) : Sw 0 0 (.bool b) := ⟨by simp only [PyData.showable], by simp [PyData.depth], by simp only [PyData.leavesShort], by simp only [PyData.hasDict], by simp [PyData.bulk]⟩
theorem Sw.int {i : Int} (h : i.natAbs < 2 ^ 1900) : Sw 0 0 (.int i) := by
  have h1 : i.natAbs.log2 < 1900 := log2_lt_of h (by decide)
  have h2 := PySem.int_text_length_le (k := 1900) (by decide) h1
  refine ⟨by simp only [PyData.showable, decide_eq_true_eq]; omega, by simp [PyData.depth], ?_, by simp only [PyData.hasDict], by simp [PyData.bulk]⟩
  unfold PyData.leavesShort
  refine decide_eq_true ?_
  show (PySem.Str.ofString (toString i)).length ≤ 2000
  rw [PySem.ofString_length]
  omega
theorem SwA.nil (w e : Nat) : SwA w e [] := ⟨by simp only [PyData.showableAll], by simp [PyData.depthAll], by simp only [PyData.leavesShortAll], by simp only [PyData.hasDictAll], by simp [PyData.bulkAll]⟩
theorem SwA.cons {w1 w2 e : Nat} {y : PyData} {ys : List PyData} (h : Sw w1 e y) (k : SwA w2 e ys) : SwA (w1 + 1 + w2) e (y :: ys) := by
  refine ⟨by simp only [PyData.showableAll, h.s, k.s, Bool.and_self], ?_, by simp only [PyData.leavesShortAll, h.l, k.l, Bool.and_self], by simp only [PyData.hasDictAll, h.h, k.h, Bool.or_self], ?_⟩
  · have := h.d; have := k.d
    simp only [PyData.depthAll]
    omega
  · have := h.b; have := k.b
    simp only [PyData.bulkAll]
    omega
theorem Sw.mono {w w' e e' : Nat} {y : PyData} (h : Sw w e y) (a : w ≤ w') (b : e ≤ e') : Sw w' e' y := ⟨h.s, Nat.le_trans h.d b, h.l, h.h, Nat.le_trans h.b a⟩
/-- a value that repr shows -/
def Rp (w e : Nat) (x : D) : Prop := ∃ y, x.py = some y ∧ Sw w e y
theorem Rp.mono {w w' e e' : Nat} {x : D} (h : Rp w e x) (a : w ≤ w') (b : e ≤ e') : Rp w' e' x := by
  obtain ⟨y, h1, h2⟩ := h
  exact ⟨y, h1, h2.mono a b⟩
theorem Rp.int {i : Int} (h : i.natAbs < 2 ^ 1900) : Rp 0 0 (.int i) := ⟨_, rfl, Sw.int h⟩
theorem Rp.bl (b : Bool) : Rp 0 0 (.bl b) := ⟨_, rfl, Sw.bl b⟩
theorem Rp.all {w e : Nat} : ∀ {xs : List D}, (∀ x ∈ xs, Rp w e x) → ∃ ys, D.py.pys xs = some ys ∧ SwA ((w + 1) * xs.length) e ys
  | [], _ => ⟨[], rfl, SwA.nil _ _⟩
  | x :: xs, h => by
    obtain ⟨y, h1, h2⟩ := h x List.mem_cons_self
    obtain ⟨ys, h3, h4⟩ := Rp.all fun z hz => h z (List.mem_cons_of_mem _ hz)
    refine ⟨y :: ys, ?_, ?_⟩
    · unfold D.py.pys
      rw [h1, h3]
    · have := SwA.cons h2 h4
      rw [List.length_cons, Nat.mul_add, Nat.mul_one, Nat.add_comm]
      exact this
theorem Rp.tup {w e : Nat} {xs : List D} (h : ∀ x ∈ xs, Rp w e x) : Rp ((w + 1) * xs.length) (e + 1) (.tup xs) := by
  obtain ⟨ys, h1, h2⟩ := Rp.all h
  refine ⟨.tuple ys, by unfold D.py; rw [h1]; rfl, by simp only [PyData.showable, h2.s], ?_, by simp only [PyData.leavesShort, h2.l], by simp only [PyData.hasDict, h2.h], by simp only [PyData.bulk]; exact h2.b⟩
  have := h2.d
  simp only [PyData.depth]
  omega
theorem Rp.lst {w e : Nat} {xs : List D} (h : ∀ x ∈ xs, Rp w e x) : Rp ((w + 1) * xs.length) (e + 1) (.lst xs) := by
  obtain ⟨ys, h1, h2⟩ := Rp.all h
  refine ⟨.list ys, by unfold D.py; rw [h1]; rfl, by simp only [PyData.showable, h2.s], ?_, by simp only [PyData.leavesShort, h2.l], by simp only [PyData.hasDict, h2.h], by simp only [PyData.bulk]; exact h2.b⟩
  have := h2.d
  simp only [PyData.depth]
  omega
theorem Rp.repr {w e : Nat} {x : D} (h : Rp w e x) (a : w ≤ 4900) (b : e ≤ 60) : ∃ t, ∀ s, reprO x s = some (.str t) := by
  obtain ⟨y, h1, h2⟩ := h
  have h3 := PySem.PyData.shown_le_bulk 2000 (by decide) y h2.l
  have h4 : (2000 + 2) * y.bulk ≤ 2002 * 4900 := Nat.mul_le_mul_left 2002 (Nat.le_trans h2.b a)
  have h5 : y.shown.length ≤ 10000000 := by omega
  have h6 : y.depth ≤ 60 := Nat.le_trans h2.d b
  refine ⟨y.shown, fun s => ?_⟩
  unfold reprO
  rw [h1]
  simp [h2.s, h6, h5, h2.h]
theorem ne_str (t : PySem.Str) (s : S) : neO (.str t) (.str t) s = some (.bl false) := by
  simp [neO, eqD]
theorem eq_str (t : PySem.Str) (s : S) : eqO (.str t) (.str t) s = some (.bl true) := by
  simp [eqO, eqD]
end Mp

set_option linter.all false
set_option maxRecDepth 100000
namespace K12
open Mp Hul
theorem meet_swap (a b c d : Pt) : meetB d c a b = meetB a b c d := by
  rw [Bool.eq_iff_iff, meetB_iff, meetB_iff]
  have on_flip : ∀ p q r : Pt, On p q r ↔ On q p r := fun p q r => by
    unfold On
    have e : turn q p r = - turn p q r := by unfold turn; grind
    rw [e]
    omega
  have bes_flip : ∀ p q r s : Pt, Beside p q r s ↔ Beside q p r s := fun p q r s => by
    unfold Beside
    omega
  have bes_flip2 : ∀ p q r s : Pt, Beside p q r s ↔ Beside p q s r := fun p q r s => by
    unfold Beside
    have e1 : turn s r p = - turn r s p := by unfold turn; grind
    have e2 : turn s r q = - turn r s q := by unfold turn; grind
    rw [e1, e2]
    omega
  unfold Meet
  rw [bes_flip d c a b, bes_flip2 a b d c, on_flip d c a, on_flip d c b]
  constructor
  · rintro (⟨h1, h2⟩ | h | h | h | h)
    · exact .inl ⟨h2, h1⟩
    · exact .inr (.inr (.inr (.inl h)))
    · exact .inr (.inr (.inr (.inr h)))
    · exact .inr (.inr (.inl h))
    · exact .inr (.inl h)
  · rintro (⟨h1, h2⟩ | h | h | h | h)
    · exact .inl ⟨h2, h1⟩
    · exact .inr (.inr (.inr (.inr h)))
    · exact .inr (.inr (.inr (.inl h)))
    · exact .inr (.inl h)
    · exact .inr (.inr (.inl h))
theorem t46 {a b c : Pt} (ha : Sm a) (hb : Sm b) (hc : Sm c) : (turn a b c).natAbs < 2 ^ 46 := cr46 (u := (b.1 - a.1, b.2 - a.2)) (v := (c.1 - a.1, c.2 - a.2)) ⟨d22 hb.1 ha.1, d22 hb.2 ha.2⟩ ⟨d22 hc.1 ha.1, d22 hc.2 ha.2⟩
theorem three_repr {x y z : D} (hx : Rp 0 0 x) (hy : Rp 0 0 y) (hz : Rp 0 0 z) : ∃ t, ∀ s, reprO (.lst [x, y, z]) s = some (.str t) := by
  refine (Rp.lst (w := 0) (e := 0) (xs := [x, y, z]) ?_).repr (by simp) (by decide)
  intro u hu
  simp only [List.mem_cons, List.not_mem_nil, or_false] at hu
  rcases hu with rfl | rfl | rfl <;> assumption
theorem k_lines_right (n : Nat) (hn : n < 2) (s : S) (ht : Two s.ms) : ∃ ms' : List (List D), f_law_lines_right [.ref n] s = .ok (.bl true) ⟨s.env, ms'⟩ ∧ Two ms' := by
  obtain ⟨a, b, c, d, ms', e1, ha, hb, hc, hd, t1⟩ := k_four n hn ⟨[], s.ms⟩ ht
  have h2 := fun s => e_law_common a b c d s ha.sm hb.sm hc.sm hd.sm
  have h3 := fun s => e_have_common a b c d s ha hb hc hd
  have h4 := fun s => e_have_common d c a b s hd hc ha hb
  rw [meet_swap] at h4
  have h5 := fun s => e_turn a b c s ha hb hc
  have h6 := fun s => e_turn b a c s hb ha hc
  have ev : turn b a c = - turn a b c := by unfold turn; grind
  rw [ev] at h6
  obtain ⟨t, ht⟩ := three_repr (Rp.bl (meetB a b c d)) (Rp.bl (meetB a b c d)) (Rp.bl (meetB a b c d))
  have tb : (turn a b c).natAbs < 2 ^ 1900 := Nat.lt_of_lt_of_le (t46 ha.sm hb.sm hc.sm) (Nat.pow_le_pow_right (by decide) (by decide))
  obtain ⟨u, hu⟩ := three_repr (Rp.int tb) (Rp.int tb) (Rp.int (i := -turn a b c) (by rwa [Int.natAbs_neg]))
  have m1 := m22 (d22 hb.sm.1 ha.sm.1) (d22 hc.sm.2 ha.sm.2)
  have m2 := m22 (d22 hb.sm.2 ha.sm.2) (d22 hc.sm.1 ha.sm.1)
  refine ⟨ms', ?_, t1⟩
  have tv : (b.1 - a.1) * (c.2 - a.2) - (b.2 - a.2) * (c.1 - a.1) = turn a b c := rfl
  generalize turn a b c = T at *
  generalize meetB a b c d = B at *
  have r3 : ∀ s, repO (.lst [.bl B]) (.int 3) s = some (.lst [.bl B, .bl B, .bl B]) := fun s => by simp [repO, List.replicate]
  unfold pairD at *
  simp [f_law_lines_right, m_law_lines_right, e1, h2, h3, h4, h5, h6, ht, hu, m1, m2, r3, at0, at1, tv, ne_str, eq_str, tgtT2, callK, reord, ownS, setown, appS, ownOf, fnM, bnd, Mp.ret, lift, stk, seqS, retS, asgS, dropS, ifS, setv, getv, peekv, op1, op2, ap1, ap2, asB, chain2, testM, truM, truO, andV, orV, notV, ifV, andB, orB, notB, argN, argC, mkTup, mkLst, frzd, callM, onMs, subsO, lenO, absO, isiO, D.tg, isTy, tgtT, tgtC, tgtN, par2, par3, forS, seqI, srcD, catO, addO, subO, repO, mulO, fdivO, modO, negO, ltO, leO, gtO, geO, cmpI, gcdO, maxO, minO, intO, tupleO, listO]
end K12

set_option linter.all false
set_option maxRecDepth 100000
namespace K12
open Mp Hul
open PySem (PyData)
def pp (p : Pt) : PyData := .tuple [.int p.1, .int p.2]
theorem py_pp (p : Pt) : (pairD p).py = some (pp p) := rfl
theorem pys_pp : ∀ qs : List Pt, D.py.pys (qs.map pairD) = some (qs.map pp)
  | [] => rfl
  | q :: qs => by
    rw [List.map_cons]
    unfold D.py.pys
    rw [py_pp, pys_pp qs]
    rfl
theorem eqv_pp (p q : Pt) : PyData.eqv (pp p) (pp q) = true ↔ p = q := by
  unfold pp
  simp only [PyData.eqv, PyData.eqvAll, Bool.and_true, Bool.and_eq_true, beq_iff_eq]
  exact ⟨fun h => Prod.ext h.1 h.2, fun h => by rw [h]; exact ⟨rfl, rfl⟩⟩
theorem eqvAll_pp : ∀ ps qs : List Pt, PyData.eqvAll (ps.map pp) (qs.map pp) = true ↔ ps = qs
  | [], [] => by simp [PyData.eqvAll]
  | [], _ :: _ => by simp [PyData.eqvAll]
  | _ :: _, [] => by simp [PyData.eqvAll]
  | p :: ps, q :: qs => by
    rw [List.map_cons, List.map_cons, PyData.eqvAll, Bool.and_eq_true, eqv_pp, eqvAll_pp ps qs]
    simp
theorem lay_pp : ∀ qs : List Pt, PyData.canLayAll0 (qs.map pp) = true ∧ PyData.depthAll (qs.map pp) ≤ 1
  | [] => ⟨rfl, by decide⟩
  | q :: qs => by
    obtain ⟨h1, h2⟩ := lay_pp qs
    rw [List.map_cons]
    refine ⟨?_, ?_⟩
    · unfold PyData.canLayAll0
      rw [h1]
      simp [pp, PyData.canLay0, PyData.canLayAll0]
    · unfold PyData.depthAll
      have : PyData.depth (pp q) = 1 := by simp [pp, PyData.depth, PyData.depthAll]
      omega
theorem shaped_pp (p : Pt) : PySem.SeqAt.shaped (pp p) = true := by
  simp [pp, PySem.SeqAt.shaped, PyData.canLay0, PyData.canLayAll0, PyData.depth, PyData.depthAll]
theorem shaped_l (qs : List Pt) : PySem.SeqAt.shaped (.list (qs.map pp)) = true := by
  obtain ⟨h1, h2⟩ := lay_pp qs
  unfold PySem.SeqAt.shaped
  have h3 : PyData.depthAll (qs.map pp) + 1 ≤ 64 := by omega
  simp [PyData.canLay0, PyData.depth, h1, h3]
theorem shaped_t (qs : List Pt) : PySem.SeqAt.shaped (.tuple (qs.map pp)) = true := by
  obtain ⟨h1, h2⟩ := lay_pp qs
  unfold PySem.SeqAt.shaped
  have h3 : PyData.depthAll (qs.map pp) + 1 ≤ 64 := by omega
  simp [PyData.canLay0, PyData.depth, h1, h3]
theorem eqD_py {x y : D} {a b : PyData} (hx : x.py = some a) (hy : y.py = some b) (nx : ∀ t, x ≠ .str t) (sa : PySem.SeqAt.shaped a = true) (sb : PySem.SeqAt.shaped b = true) : eqD x y = some (PyData.eqv a b) := by
  unfold eqD
  split
  · rename_i t _
    exact absurd rfl (nx t)
  · simp [hx, hy, sa, sb]
theorem py_l (qs : List Pt) : (D.lst (qs.map pairD)).py = some (.list (qs.map pp)) := by
  unfold D.py
  rw [pys_pp]
  rfl
theorem py_t (qs : List Pt) : (D.tup (qs.map pairD)).py = some (.tuple (qs.map pp)) := by
  unfold D.py
  rw [pys_pp]
  rfl
theorem eqD_pair (p q : Pt) : eqD (pairD p) (pairD q) = some (decide (p = q)) := by
  rw [eqD_py (py_pp p) (py_pp q) (fun t h => by cases h) (shaped_pp p) (shaped_pp q)]
  congr 1
  rw [Bool.eq_iff_iff, eqv_pp, decide_eq_true_eq]
theorem eqD_lst (ps qs : List Pt) : eqD (.lst (ps.map pairD)) (.lst (qs.map pairD)) = some (decide (ps = qs)) := by
  rw [eqD_py (py_l ps) (py_l qs) (fun t h => by cases h) (shaped_l ps) (shaped_l qs)]
  congr 1
  rw [Bool.eq_iff_iff, PyData.eqv, eqvAll_pp, decide_eq_true_eq]
theorem eqD_tup (ps qs : List Pt) : eqD (.tup (ps.map pairD)) (.tup (qs.map pairD)) = some (decide (ps = qs)) := by
  rw [eqD_py (py_t ps) (py_t qs) (fun t h => by cases h) (shaped_t ps) (shaped_t qs)]
  congr 1
  rw [Bool.eq_iff_iff, PyData.eqv, eqvAll_pp, decide_eq_true_eq]
theorem ne_pair (p q : Pt) (s : S) : neO (pairD p) (pairD q) s = some (.bl (!decide (p = q))) := by unfold neO; rw [eqD_pair]; rfl
theorem eq_lst (p q : List Pt) (s : S) : eqO (.lst (p.map pairD)) (.lst (q.map pairD)) s = some (.bl (decide (p = q))) := by unfold eqO; rw [eqD_lst]; rfl
theorem ne_lst (p q : List Pt) (s : S) : neO (.lst (p.map pairD)) (.lst (q.map pairD)) s = some (.bl (!decide (p = q))) := by unfold neO; rw [eqD_lst]; rfl
theorem eq_tup (p q : List Pt) (s : S) : eqO (.tup (p.map pairD)) (.tup (q.map pairD)) s = some (.bl (decide (p = q))) := by unfold eqO; rw [eqD_tup]; rfl
theorem ne_tup (p q : List Pt) (s : S) : neO (.tup (p.map pairD)) (.tup (q.map pairD)) s = some (.bl (!decide (p = q))) := by unfold neO; rw [eqD_tup]; rfl
theorem nin_pair (p : Pt) (qs : List Pt) (s : S) : ninO (pairD p) (.lst (qs.map pairD)) s = some (.bl (!decide (p ∈ qs))) := by
  have e : (qs.map pp).any (fun z => PyData.eqv z (pp p)) = decide (p ∈ qs) := by
    rw [Bool.eq_iff_iff, List.any_eq_true, decide_eq_true_eq]
    constructor
    · rintro ⟨z, hz, h⟩
      obtain ⟨n, hn, rfl⟩ := List.mem_map.mp hz
      rw [(eqv_pp n p).mp h] at hn
      exact hn
    · intro h
      exact ⟨pp p, List.mem_map.mpr ⟨p, h, rfl⟩, (eqv_pp p p).mpr rfl⟩
  have e0 : inD (pairD p) (.lst (qs.map pairD)) = some (decide (p ∈ qs)) := by
    unfold inD
    split
    · rename_i h _
      cases h
    · simp only [py_pp, py_l, shaped_pp, shaped_l, e, Bool.and_self, if_true]
  unfold ninO
  rw [e0]
  rfl
theorem k_spots (n : Nat) (hn : n < 2) (N m : Int) (s : S) (ht : Two s.ms) (h0 : 0 ≤ N) (h1 : N ≤ 10) (m0 : 2 ≤ m) (m1 : m ≤ 999) :
    ∃ (qs : List Pt) (ms' : List (List D)), f_law_spots [.ref n, .int N, .int m] s = .ok (.lst (qs.map pairD)) ⟨s.env, ms'⟩ ∧ qs.Nodup ∧ (∀ p ∈ qs, Sp p) ∧ qs.length ≤ 10 ∧ Two ms' := by
  have mo : mulOk 2 m = true := mulOk_of (n := 20) (m := 20) (by decide) (by omega) (by decide)
  have hl : (rangeD 0 N).length ≤ 10 := by unfold rangeD; simp; omega
  obtain ⟨s', e, a, b, qs, ms', rfl, nd, sp, ll, t⟩ := forL_inv (t := setv 4) (b := lb1_law_spots) (fun xs s => ∃ (a b : Sl) (qs : List Pt) (ms : List (List D)), s = ⟨[.val (.ref n), .val (.int N), .val (.int m), .own (qs.map pairD), a, b], ms⟩ ∧ qs.Nodup ∧ (∀ p ∈ qs, Sp p) ∧ qs.length + xs.length ≤ 10 ∧ Two ms)
    (xs := rangeD 0 N) (s := ⟨[.val (.ref n), .val (.int N), .val (.int m), .own [], .un, .un], s.ms⟩) ⟨.un, .un, [], s.ms, rfl, List.nodup_nil, by simp, by simpa using hl, ht⟩ (by
      rintro x xs _ ⟨a, b, qs, ms, rfl, nd, sp, ll, tw⟩
      obtain ⟨k1, msA, d1, k10, k11, tA⟩ := k_draw n hn (2 * m + 1) ⟨[], ms⟩ tw (by omega) (by omega)
      obtain ⟨k2, msB, d2, k20, k21, tB⟩ := k_draw n hn (2 * m + 1) ⟨[], msA⟩ tA (by omega) (by omega)
      have nin := fun s => nin_pair (k1 - m, k2 - m) qs s
      have hlen : (qs.map pairD).length < 100000 := by simp at ll ⊢; omega
      have hll : qs.length < 100000 := by simp at ll ⊢; omega
      refine ⟨⟨[.val (.ref n), .val (.int N), .val (.int m), .own (qs.map pairD), .val x, b], ms⟩, ?_⟩
      by_cases c : (k1 - m, k2 - m) ∈ qs
      · refine ⟨⟨[.val (.ref n), .val (.int N), .val (.int m), .own (qs.map pairD), .val x, .val (pairD (k1 - m, k2 - m))], msB⟩, by simp [fnM, bnd, Mp.ret, lift, stk, seqS, retS, asgS, dropS, ifS, setv, getv, peekv, op1, op2, ap1, ap2, asB, chain2, testM, truM, truO, andV, orV, notV, ifV, andB, orB, notB, argN, argC, mkTup, mkLst, frzd, callM, onMs, subsO, lenO, absO, isiO, D.tg, isTy, tgtT, tgtC, tgtN, par2, par3, forS, seqI, srcD, catO, addO, subO, repO, mulO, fdivO, modO, negO, ltO, leO, gtO, geO, cmpI, gcdO, maxO, minO, intO, tupleO, listO], ?_, _, _, qs, msB, rfl, nd, sp, by simp at ll; omega, tB⟩
        rw [decide_eq_true c] at nin
        unfold pairD at *
        generalize hq : qs.map _ = ql at *
        simp [lb1_law_spots, mo, d1, d2, nin, fnM, bnd, Mp.ret, lift, stk, seqS, retS, asgS, dropS, ifS, setv, getv, peekv, op1, op2, ap1, ap2, asB, chain2, testM, truM, truO, andV, orV, notV, ifV, andB, orB, notB, argN, argC, mkTup, mkLst, frzd, callM, onMs, subsO, lenO, absO, isiO, D.tg, isTy, tgtT, tgtC, tgtN, par2, par3, forS, seqI, srcD, catO, addO, subO, repO, mulO, fdivO, modO, negO, ltO, leO, gtO, geO, cmpI, gcdO, maxO, minO, intO, tupleO, listO]
      · refine ⟨⟨[.val (.ref n), .val (.int N), .val (.int m), .own ((qs ++ [(k1 - m, k2 - m)]).map pairD), .val x, .val (pairD (k1 - m, k2 - m))], msB⟩, by simp [fnM, bnd, Mp.ret, lift, stk, seqS, retS, asgS, dropS, ifS, setv, getv, peekv, op1, op2, ap1, ap2, asB, chain2, testM, truM, truO, andV, orV, notV, ifV, andB, orB, notB, argN, argC, mkTup, mkLst, frzd, callM, onMs, subsO, lenO, absO, isiO, D.tg, isTy, tgtT, tgtC, tgtN, par2, par3, forS, seqI, srcD, catO, addO, subO, repO, mulO, fdivO, modO, negO, ltO, leO, gtO, geO, cmpI, gcdO, maxO, minO, intO, tupleO, listO], ?_, _, _, qs ++ [(k1 - m, k2 - m)], msB, rfl, ?_, ?_, by simp at ll ⊢; omega, tB⟩
        · rw [decide_eq_false c] at nin
          rw [List.map_append]
          unfold pairD at *
          generalize hq : qs.map _ = ql at *
          simp [lb1_law_spots, mo, d1, d2, nin, appS, ownOf, hlen, fnM, bnd, Mp.ret, lift, stk, seqS, retS, asgS, dropS, ifS, setv, getv, peekv, op1, op2, ap1, ap2, asB, chain2, testM, truM, truO, andV, orV, notV, ifV, andB, orB, notB, argN, argC, mkTup, mkLst, frzd, callM, onMs, subsO, lenO, absO, isiO, D.tg, isTy, tgtT, tgtC, tgtN, par2, par3, forS, seqI, srcD, catO, addO, subO, repO, mulO, fdivO, modO, negO, ltO, leO, gtO, geO, cmpI, gcdO, maxO, minO, intO, tupleO, listO]
        · exact List.nodup_append.mpr ⟨nd, by simp, by
            intro p hp q hq e
            simp at hq
            subst e
            rw [hq] at hp
            exact c hp⟩
        · intro p hp
          rcases List.mem_append.mp hp with h | h
          · exact sp p h
          · simp at h
            subst h
            unfold Sp
            simp only
            omega)
  refine ⟨qs, ms', ?_, nd, sp, by simpa using ll, t⟩
  generalize hq : qs.map pairD = ql at *
  have ho : rng1O [.int N] = some (rangeD 0 N) := by
    unfold rng1O
    simp
    omega
  simp [f_law_spots, m_law_spots, l1_law_spots, ownS, setown, overA, ho, e, fnM, bnd, Mp.ret, lift, stk, seqS, retS, asgS, dropS, ifS, setv, getv, peekv, op1, op2, ap1, ap2, asB, chain2, testM, truM, truO, andV, orV, notV, ifV, andB, orB, notB, argN, argC, mkTup, mkLst, frzd, callM, onMs, subsO, lenO, absO, isiO, D.tg, isTy, tgtT, tgtC, tgtN, par2, par3, forS, seqI, srcD, catO, addO, subO, repO, mulO, fdivO, modO, negO, ltO, leO, gtO, geO, cmpI, gcdO, maxO, minO, intO, tupleO, listO]
end K12

set_option linter.all false
set_option maxRecDepth 100000
namespace K12
open Mp Hul
theorem forL_any {α : Type} (enc : α → D) {t : Tgt} {b : M Fl} (J : S → Prop) (c : α → Prop) : ∀ {l : List α} {s : S}, J s →
    (∀ x ∈ l, ∀ s, J s → ∃ s1 s2 fl, t (enc x) s = .ok () s1 ∧ b s1 = .ok fl s2 ∧ J s2 ∧ ((fl = .nx ∧ ¬ c x) ∨ (fl = .ret (.bl true) ∧ c x))) →
    ∃ s' fl, forL t b (l.map enc) s = .ok fl s' ∧ J s' ∧ ((fl = .nx ∧ ∀ x ∈ l, ¬ c x) ∨ (fl = .ret (.bl true) ∧ ∃ x ∈ l, c x))
  | [], s, j, _ => ⟨s, .nx, rfl, j, .inl ⟨rfl, fun x hx => absurd hx List.not_mem_nil⟩⟩
  | x :: l, s, j, h => by
    obtain ⟨s1, s2, fl, h1, h2, j2, h3⟩ := h x List.mem_cons_self s j
    rcases h3 with ⟨rfl, n⟩ | ⟨rfl, y⟩
    · obtain ⟨s', fl, h4, j4, h5⟩ := forL_any enc J c j2 fun y hy => h y (List.mem_cons_of_mem _ hy)
      refine ⟨s', fl, ?_, j4, ?_⟩
      · rw [List.map_cons, forL_step h1 h2]
        exact h4
      · rcases h5 with ⟨e, h5⟩ | ⟨e, z, hz, h5⟩
        · refine .inl ⟨e, fun z hz => ?_⟩
          rcases List.mem_cons.mp hz with rfl | hz
          · exact n
          · exact h5 z hz
        · exact .inr ⟨e, z, List.mem_cons_of_mem _ hz, h5⟩
    · refine ⟨s2, .ret (.bl true), ?_, j2, .inr ⟨rfl, x, List.mem_cons_self, y⟩⟩
      rw [List.map_cons]
      show bnd (t (enc x)) _ s = _
      unfold bnd
      rw [h1]
      simp only
      rw [h2]
      rfl
def C1 (a b q x : Pt) : Prop := 0 < turn a b x ∧ 0 ≤ turn a b q ∧ 0 ≤ turn b x q ∧ 0 ≤ turn x a q
def C2 (L : List Pt) (a q b : Pt) : Prop := (a ≠ b ∧ On a b q) ∨ ∃ c ∈ L, C1 a b q c
theorem min3 (x y z : Int) : (0 ≤ minI x [y, z]) ↔ 0 ≤ x ∧ 0 ≤ y ∧ 0 ≤ z := by
  obtain ⟨h1, h2⟩ := minI_spec x [y, z]
  have a := h2 x (by simp)
  have b := h2 y (by simp)
  have c := h2 z (by simp)
  simp only [List.mem_cons, List.not_mem_nil, or_false] at h1
  omega
section
variable {L : List Pt} {q : Pt} {ms : List (List D)} (X Y : D)
theorem held_in (hL : ∀ p ∈ L, Sm p) (hq : Sm q) (a b : Pt) (ha : Sm a) (hb : Sm b) (x5 x6 : Sl) :
    ∃ s' fl, l1_law_is_held ⟨[.val X, .val (pairD q), .val (.lst (L.map pairD)), .val (pairD a), .val (pairD b), x5, x6, .un], ms⟩ = .ok fl s' ∧ (∃ x5 x6, s' = ⟨[.val X, .val (pairD q), .val (.lst (L.map pairD)), .val (pairD a), .val (pairD b), x5, x6, .un], ms⟩) ∧ ((fl = .nx ∧ ∀ x ∈ L, ¬ C1 a b q x) ∨ (fl = .ret (.bl true) ∧ ∃ x ∈ L, C1 a b q x)) := by
  obtain ⟨s', fl, h1, h2, h3⟩ := forL_any pairD (t := setv 5) (b := lb1_law_is_held) (fun s => ∃ x5 x6, s = ⟨[.val X, .val (pairD q), .val (.lst (L.map pairD)), .val (pairD a), .val (pairD b), x5, x6, .un], ms⟩) (C1 a b q) (l := L) (s := ⟨[.val X, .val (pairD q), .val (.lst (L.map pairD)), .val (pairD a), .val (pairD b), x5, x6, .un], ms⟩) ⟨_, _, rfl⟩ (by
    rintro x hx _ ⟨y5, y6, rfl⟩
    have h1 := fun s => e_law_turn a b q s ha hb hq
    have h2 := fun s => e_law_turn b x q s hb (hL x hx) hq
    have h3 := fun s => e_law_turn x a q s (hL x hx) ha hq
    have h4 := fun s => e_law_turn a b x s ha hb (hL x hx)
    have m3 := min3 (turn a b q) (turn b x q) (turn x a q)
    generalize D.lst (L.map pairD) = LL at *
    refine ⟨⟨[.val X, .val (pairD q), .val LL, .val (pairD a), .val (pairD b), .val (pairD x), y6, .un], ms⟩, ⟨[.val X, .val (pairD q), .val LL, .val (pairD a), .val (pairD b), .val (pairD x), .val (.lst [.int (turn a b q), .int (turn b x q), .int (turn x a q)]), .un], ms⟩, ?_⟩
    unfold C1
    rw [← m3]
    generalize turn a b q = t1 at *
    generalize turn b x q = t2 at *
    generalize turn x a q = t3 at *
    generalize turn a b x = t4 at *
    generalize pairD a = A at *
    generalize pairD b = B at *
    generalize pairD x = C at *
    generalize pairD q = D1 at *
    have mn : ∀ s, minLO (.lst [.int t1, .int t2, .int t3]) s = some (.int (minI t1 [t2, t3])) := fun s => rfl
    generalize minI t1 [t2, t3] = mm at *
    by_cases c1 : 0 < t4
    · by_cases c2 : 0 ≤ mm
      · refine ⟨.ret (.bl true), by simp [fnM, bnd, Mp.ret, lift, stk, seqS, retS, asgS, dropS, ifS, setv, getv, peekv, op1, op2, ap1, ap2, asB, chain2, testM, truM, truO, andV, orV, notV, ifV, andB, orB, notB, argN, argC, mkTup, mkLst, frzd, callM, onMs, subsO, lenO, absO, isiO, D.tg, isTy, tgtT, tgtC, tgtN, par2, par3, forS, seqI, srcD, catO, addO, subO, repO, mulO, fdivO, modO, negO, ltO, leO, gtO, geO, cmpI, gcdO, maxO, minO, intO, tupleO, listO], ?_, ⟨_, _, rfl⟩, .inr ⟨rfl, c1, c2⟩⟩
        simp [lb1_law_is_held, h1, h2, h3, h4, mn, c1, c2, fnM, bnd, Mp.ret, lift, stk, seqS, retS, asgS, dropS, ifS, setv, getv, peekv, op1, op2, ap1, ap2, asB, chain2, testM, truM, truO, andV, orV, notV, ifV, andB, orB, notB, argN, argC, mkTup, mkLst, frzd, callM, onMs, subsO, lenO, absO, isiO, D.tg, isTy, tgtT, tgtC, tgtN, par2, par3, forS, seqI, srcD, catO, addO, subO, repO, mulO, fdivO, modO, negO, ltO, leO, gtO, geO, cmpI, gcdO, maxO, minO, intO, tupleO, listO]
      · refine ⟨.nx, by simp [fnM, bnd, Mp.ret, lift, stk, seqS, retS, asgS, dropS, ifS, setv, getv, peekv, op1, op2, ap1, ap2, asB, chain2, testM, truM, truO, andV, orV, notV, ifV, andB, orB, notB, argN, argC, mkTup, mkLst, frzd, callM, onMs, subsO, lenO, absO, isiO, D.tg, isTy, tgtT, tgtC, tgtN, par2, par3, forS, seqI, srcD, catO, addO, subO, repO, mulO, fdivO, modO, negO, ltO, leO, gtO, geO, cmpI, gcdO, maxO, minO, intO, tupleO, listO], ?_, ⟨_, _, rfl⟩, .inl ⟨rfl, fun h => c2 h.2⟩⟩
        simp [lb1_law_is_held, h1, h2, h3, h4, mn, c1, c2, fnM, bnd, Mp.ret, lift, stk, seqS, retS, asgS, dropS, ifS, setv, getv, peekv, op1, op2, ap1, ap2, asB, chain2, testM, truM, truO, andV, orV, notV, ifV, andB, orB, notB, argN, argC, mkTup, mkLst, frzd, callM, onMs, subsO, lenO, absO, isiO, D.tg, isTy, tgtT, tgtC, tgtN, par2, par3, forS, seqI, srcD, catO, addO, subO, repO, mulO, fdivO, modO, negO, ltO, leO, gtO, geO, cmpI, gcdO, maxO, minO, intO, tupleO, listO]
    · refine ⟨.nx, by simp [fnM, bnd, Mp.ret, lift, stk, seqS, retS, asgS, dropS, ifS, setv, getv, peekv, op1, op2, ap1, ap2, asB, chain2, testM, truM, truO, andV, orV, notV, ifV, andB, orB, notB, argN, argC, mkTup, mkLst, frzd, callM, onMs, subsO, lenO, absO, isiO, D.tg, isTy, tgtT, tgtC, tgtN, par2, par3, forS, seqI, srcD, catO, addO, subO, repO, mulO, fdivO, modO, negO, ltO, leO, gtO, geO, cmpI, gcdO, maxO, minO, intO, tupleO, listO], ?_, ⟨_, _, rfl⟩, .inl ⟨rfl, fun h => c1 h.1⟩⟩
      simp [lb1_law_is_held, h1, h2, h3, h4, c1, fnM, bnd, Mp.ret, lift, stk, seqS, retS, asgS, dropS, ifS, setv, getv, peekv, op1, op2, ap1, ap2, asB, chain2, testM, truM, truO, andV, orV, notV, ifV, andB, orB, notB, argN, argC, mkTup, mkLst, frzd, callM, onMs, subsO, lenO, absO, isiO, D.tg, isTy, tgtT, tgtC, tgtN, par2, par3, forS, seqI, srcD, catO, addO, subO, repO, mulO, fdivO, modO, negO, ltO, leO, gtO, geO, cmpI, gcdO, maxO, minO, intO, tupleO, listO])
  refine ⟨s', fl, ?_, h2, h3⟩
  unfold l1_law_is_held
  generalize L.map pairD = LL at *
  simp [h1, fnM, bnd, Mp.ret, lift, stk, seqS, retS, asgS, dropS, ifS, setv, getv, peekv, op1, op2, ap1, ap2, asB, chain2, testM, truM, truO, andV, orV, notV, ifV, andB, orB, notB, argN, argC, mkTup, mkLst, frzd, callM, onMs, subsO, lenO, absO, isiO, D.tg, isTy, tgtT, tgtC, tgtN, par2, par3, forS, seqI, srcD, catO, addO, subO, repO, mulO, fdivO, modO, negO, ltO, leO, gtO, geO, cmpI, gcdO, maxO, minO, intO, tupleO, listO]
theorem held_mid (hL : ∀ p ∈ L, Sm p) (hq : Sm q) (a : Pt) (ha : Sm a) (x4 x5 x6 : Sl) :
    ∃ s' fl, l2_law_is_held ⟨[.val X, .val (pairD q), .val (.lst (L.map pairD)), .val (pairD a), x4, x5, x6, .un], ms⟩ = .ok fl s' ∧ (∃ x4 x5 x6, s' = ⟨[.val X, .val (pairD q), .val (.lst (L.map pairD)), .val (pairD a), x4, x5, x6, .un], ms⟩) ∧ ((fl = .nx ∧ ∀ x ∈ L, ¬ C2 L a q x) ∨ (fl = .ret (.bl true) ∧ ∃ x ∈ L, C2 L a q x)) := by
  obtain ⟨s', fl, h1, h2, h3⟩ := forL_any pairD (t := setv 4) (b := lb2_law_is_held) (fun s => ∃ x4 x5 x6, s = ⟨[.val X, .val (pairD q), .val (.lst (L.map pairD)), .val (pairD a), x4, x5, x6, .un], ms⟩) (C2 L a q) (l := L) (s := ⟨[.val X, .val (pairD q), .val (.lst (L.map pairD)), .val (pairD a), x4, x5, x6, .un], ms⟩) ⟨_, _, _, rfl⟩ (by
    rintro x hx _ ⟨y4, y5, y6, rfl⟩
    have h1 := fun s => e_law_on a x q s ha (hL x hx) hq
    have h0 := fun s => ne_pair a x s
    obtain ⟨s3, fl, h4, ⟨z5, z6, rfl⟩, h5⟩ := held_in (ms := ms) X hL hq a x ha (hL x hx) y5 y6
    have iff : onB a x q = true ↔ On a x q := onB_iff
    by_cases c : a ≠ x ∧ On a x q
    · refine ⟨⟨[.val X, .val (pairD q), .val (.lst (L.map pairD)), .val (pairD a), .val (pairD x), y5, y6, .un], ms⟩, ⟨[.val X, .val (pairD q), .val (.lst (L.map pairD)), .val (pairD a), .val (pairD x), y5, y6, .un], ms⟩, .ret (.bl true), ?_, ?_, ⟨_, _, _, rfl⟩, .inr ⟨rfl, .inl c⟩⟩
      · generalize D.lst (L.map pairD) = LL at *
        simp [fnM, bnd, Mp.ret, lift, stk, seqS, retS, asgS, dropS, ifS, setv, getv, peekv, op1, op2, ap1, ap2, asB, chain2, testM, truM, truO, andV, orV, notV, ifV, andB, orB, notB, argN, argC, mkTup, mkLst, frzd, callM, onMs, subsO, lenO, absO, isiO, D.tg, isTy, tgtT, tgtC, tgtN, par2, par3, forS, seqI, srcD, catO, addO, subO, repO, mulO, fdivO, modO, negO, ltO, leO, gtO, geO, cmpI, gcdO, maxO, minO, intO, tupleO, listO]
      · rw [iff.mpr c.2] at h1
        rw [decide_eq_false c.1] at h0
        generalize D.lst (L.map pairD) = LL at *
        generalize pairD a = A at *
        generalize pairD x = B at *
        generalize pairD q = C at *
        simp [lb2_law_is_held, h0, h1, fnM, bnd, Mp.ret, lift, stk, seqS, retS, asgS, dropS, ifS, setv, getv, peekv, op1, op2, ap1, ap2, asB, chain2, testM, truM, truO, andV, orV, notV, ifV, andB, orB, notB, argN, argC, mkTup, mkLst, frzd, callM, onMs, subsO, lenO, absO, isiO, D.tg, isTy, tgtT, tgtC, tgtN, par2, par3, forS, seqI, srcD, catO, addO, subO, repO, mulO, fdivO, modO, negO, ltO, leO, gtO, geO, cmpI, gcdO, maxO, minO, intO, tupleO, listO]
    · refine ⟨⟨[.val X, .val (pairD q), .val (.lst (L.map pairD)), .val (pairD a), .val (pairD x), y5, y6, .un], ms⟩, ⟨[.val X, .val (pairD q), .val (.lst (L.map pairD)), .val (pairD a), .val (pairD x), z5, z6, .un], ms⟩, fl, ?_, ?_, ⟨_, _, _, rfl⟩, ?_⟩
      · generalize D.lst (L.map pairD) = LL at *
        simp [fnM, bnd, Mp.ret, lift, stk, seqS, retS, asgS, dropS, ifS, setv, getv, peekv, op1, op2, ap1, ap2, asB, chain2, testM, truM, truO, andV, orV, notV, ifV, andB, orB, notB, argN, argC, mkTup, mkLst, frzd, callM, onMs, subsO, lenO, absO, isiO, D.tg, isTy, tgtT, tgtC, tgtN, par2, par3, forS, seqI, srcD, catO, addO, subO, repO, mulO, fdivO, modO, negO, ltO, leO, gtO, geO, cmpI, gcdO, maxO, minO, intO, tupleO, listO]
      · by_cases c2 : a = x
        · rw [decide_eq_true c2] at h0
          generalize D.lst (L.map pairD) = LL at *
          generalize pairD a = A at *
          generalize pairD x = B at *
          generalize pairD q = C at *
          simp [lb2_law_is_held, h0, h4, fnM, bnd, Mp.ret, lift, stk, seqS, retS, asgS, dropS, ifS, setv, getv, peekv, op1, op2, ap1, ap2, asB, chain2, testM, truM, truO, andV, orV, notV, ifV, andB, orB, notB, argN, argC, mkTup, mkLst, frzd, callM, onMs, subsO, lenO, absO, isiO, D.tg, isTy, tgtT, tgtC, tgtN, par2, par3, forS, seqI, srcD, catO, addO, subO, repO, mulO, fdivO, modO, negO, ltO, leO, gtO, geO, cmpI, gcdO, maxO, minO, intO, tupleO, listO]
        · have c3 : onB a x q = false := by
            rw [← Bool.not_eq_true, iff]
            exact fun h => c ⟨c2, h⟩
          rw [c3] at h1
          rw [decide_eq_false c2] at h0
          generalize D.lst (L.map pairD) = LL at *
          generalize pairD a = A at *
          generalize pairD x = B at *
          generalize pairD q = C at *
          simp [lb2_law_is_held, h0, h1, h4, fnM, bnd, Mp.ret, lift, stk, seqS, retS, asgS, dropS, ifS, setv, getv, peekv, op1, op2, ap1, ap2, asB, chain2, testM, truM, truO, andV, orV, notV, ifV, andB, orB, notB, argN, argC, mkTup, mkLst, frzd, callM, onMs, subsO, lenO, absO, isiO, D.tg, isTy, tgtT, tgtC, tgtN, par2, par3, forS, seqI, srcD, catO, addO, subO, repO, mulO, fdivO, modO, negO, ltO, leO, gtO, geO, cmpI, gcdO, maxO, minO, intO, tupleO, listO]
      · rcases h5 with ⟨e, h5⟩ | ⟨e, h5⟩
        · exact .inl ⟨e, fun h => h.elim c fun ⟨z, hz, h6⟩ => h5 z hz h6⟩
        · exact .inr ⟨e, .inr h5⟩)
  refine ⟨s', fl, ?_, h2, h3⟩
  unfold l2_law_is_held
  generalize L.map pairD = LL at *
  simp [h1, fnM, bnd, Mp.ret, lift, stk, seqS, retS, asgS, dropS, ifS, setv, getv, peekv, op1, op2, ap1, ap2, asB, chain2, testM, truM, truO, andV, orV, notV, ifV, andB, orB, notB, argN, argC, mkTup, mkLst, frzd, callM, onMs, subsO, lenO, absO, isiO, D.tg, isTy, tgtT, tgtC, tgtN, par2, par3, forS, seqI, srcD, catO, addO, subO, repO, mulO, fdivO, modO, negO, ltO, leO, gtO, geO, cmpI, gcdO, maxO, minO, intO, tupleO, listO]
theorem held_out (hL : ∀ p ∈ L, Sm p) (hq : Sm q) (x3 x4 x5 x6 : Sl) :
    ∃ s' fl, l3_law_is_held ⟨[.val X, .val (pairD q), .val (.lst (L.map pairD)), x3, x4, x5, x6, .un], ms⟩ = .ok fl s' ∧ (∃ x3 x4 x5 x6, s' = ⟨[.val X, .val (pairD q), .val (.lst (L.map pairD)), x3, x4, x5, x6, .un], ms⟩) ∧ ((fl = .nx ∧ ∀ a ∈ L, ¬ ∃ b ∈ L, C2 L a q b) ∨ (fl = .ret (.bl true) ∧ ∃ a ∈ L, ∃ b ∈ L, C2 L a q b)) := by
  obtain ⟨s', fl, h1, h2, h3⟩ := forL_any pairD (t := setv 3) (b := lb3_law_is_held) (fun s => ∃ x3 x4 x5 x6, s = ⟨[.val X, .val (pairD q), .val (.lst (L.map pairD)), x3, x4, x5, x6, .un], ms⟩) (fun a => ∃ b ∈ L, C2 L a q b) (l := L) (s := ⟨[.val X, .val (pairD q), .val (.lst (L.map pairD)), x3, x4, x5, x6, .un], ms⟩) ⟨_, _, _, _, rfl⟩ (by
    rintro x hx _ ⟨y3, y4, y5, y6, rfl⟩
    obtain ⟨s3, fl, h4, ⟨z4, z5, z6, rfl⟩, h5⟩ := held_mid (ms := ms) X hL hq x (hL x hx) y4 y5 y6
    refine ⟨⟨[.val X, .val (pairD q), .val (.lst (L.map pairD)), .val (pairD x), y4, y5, y6, .un], ms⟩, ⟨[.val X, .val (pairD q), .val (.lst (L.map pairD)), .val (pairD x), z4, z5, z6, .un], ms⟩, fl, ?_, h4, ⟨_, _, _, _, rfl⟩, ?_⟩
    · generalize D.lst (L.map pairD) = LL at *
      simp [fnM, bnd, Mp.ret, lift, stk, seqS, retS, asgS, dropS, ifS, setv, getv, peekv, op1, op2, ap1, ap2, asB, chain2, testM, truM, truO, andV, orV, notV, ifV, andB, orB, notB, argN, argC, mkTup, mkLst, frzd, callM, onMs, subsO, lenO, absO, isiO, D.tg, isTy, tgtT, tgtC, tgtN, par2, par3, forS, seqI, srcD, catO, addO, subO, repO, mulO, fdivO, modO, negO, ltO, leO, gtO, geO, cmpI, gcdO, maxO, minO, intO, tupleO, listO]
    · rcases h5 with ⟨e, h5⟩ | ⟨e, h5⟩
      · exact .inl ⟨e, fun ⟨z, hz, h6⟩ => h5 z hz h6⟩
      · exact .inr ⟨e, h5⟩)
  refine ⟨s', fl, ?_, h2, h3⟩
  unfold l3_law_is_held
  generalize L.map pairD = LL at *
  simp [h1, fnM, bnd, Mp.ret, lift, stk, seqS, retS, asgS, dropS, ifS, setv, getv, peekv, op1, op2, ap1, ap2, asB, chain2, testM, truM, truO, andV, orV, notV, ifV, andB, orB, notB, argN, argC, mkTup, mkLst, frzd, callM, onMs, subsO, lenO, absO, isiO, D.tg, isTy, tgtT, tgtC, tgtN, par2, par3, forS, seqI, srcD, catO, addO, subO, repO, mulO, fdivO, modO, negO, ltO, leO, gtO, geO, cmpI, gcdO, maxO, minO, intO, tupleO, listO]
end
theorem held_iff (Q : List Pt) (q : Pt) : Held Q q ↔ ∃ a ∈ Q.filter (fun x => !decide (x = q)), ∃ b ∈ Q.filter (fun x => !decide (x = q)), C2 (Q.filter (fun x => !decide (x = q))) a q b := by
  unfold Held C2 C1
  simp only [List.mem_filter, Bool.not_eq_true', decide_eq_false_iff_not]
  constructor
  · rintro ⟨a, ha, ha2, b, hb, hb2, h⟩
    refine ⟨a, ⟨ha, ha2⟩, b, ⟨hb, hb2⟩, ?_⟩
    rcases h with h | ⟨c, hc, hc2, h⟩
    · exact .inl h
    · exact .inr ⟨c, ⟨hc, hc2⟩, h⟩
  · rintro ⟨a, ⟨ha, ha2⟩, b, ⟨hb, hb2⟩, h⟩
    refine ⟨a, ha, ha2, b, hb, hb2, ?_⟩
    rcases h with h | ⟨c, ⟨hc, hc2⟩, h⟩
    · exact .inl h
    · exact .inr ⟨c, hc, hc2, h⟩
open Classical in
noncomputable def heldB (Q : List Pt) (q : Pt) : Bool := decide (Held Q q)
open Classical in
theorem heldB_true {Q : List Pt} {q : Pt} (h : Held Q q) : heldB Q q = true := by
  unfold heldB
  exact decide_eq_true h
open Classical in
theorem heldB_false {Q : List Pt} {q : Pt} (h : ¬ Held Q q) : heldB Q q = false := by
  unfold heldB
  exact decide_eq_false h
theorem e_is_held (Q : List Pt) (q : Pt) (s : S) (hQ : ∀ p ∈ Q, Sp p) (hq : Sp q) (hl : Q.length ≤ 100) : f_law_is_held [.lst (Q.map pairD), pairD q] s = .ok (.bl (heldB Q q)) s := by
  have hc := lcM_map pairD Q (vs := [7]) (src := seqI (getv 0)) (t := setv 7) (c := ct1_law_is_held) (f := ce1_law_is_held) (fun x => if (!decide (x = q)) = true then some (pairD x) else none) (s := ⟨[.val (.lst (Q.map pairD)), .val (pairD q), .un, .un, .un, .un, .un, .un], s.ms⟩) (by simp [fnM, bnd, Mp.ret, lift, stk, seqS, retS, asgS, dropS, ifS, setv, getv, peekv, op1, op2, ap1, ap2, asB, chain2, testM, truM, truO, andV, orV, notV, ifV, andB, orB, notB, argN, argC, mkTup, mkLst, frzd, callM, onMs, subsO, lenO, absO, isiO, D.tg, isTy, tgtT, tgtC, tgtN, par2, par3, forS, seqI, srcD, catO, addO, subO, repO, mulO, fdivO, modO, negO, ltO, leO, gtO, geO, cmpI, gcdO, maxO, minO, intO, tupleO, listO]) (by omega) (by simp) (by
    intro x hx
    have h0 := fun s => ne_pair x q s
    refine ⟨[.val (.lst (Q.map pairD)), .val (pairD q), .un, .un, .un, .un, .un, .val (pairD x)], ?_, by simp [wipeE]⟩
    by_cases c : x = q
    · rw [decide_eq_true c] at h0
      simp only [c, decide_true, Bool.not_true]
      subst c
      generalize D.lst (Q.map pairD) = LL at *
      generalize pairD x = A at *
      simp [lcT, ct1_law_is_held, ce1_law_is_held, wipeE, h0, fnM, bnd, Mp.ret, lift, stk, seqS, retS, asgS, dropS, ifS, setv, getv, peekv, op1, op2, ap1, ap2, asB, chain2, testM, truM, truO, andV, orV, notV, ifV, andB, orB, notB, argN, argC, mkTup, mkLst, frzd, callM, onMs, subsO, lenO, absO, isiO, D.tg, isTy, tgtT, tgtC, tgtN, par2, par3, forS, seqI, srcD, catO, addO, subO, repO, mulO, fdivO, modO, negO, ltO, leO, gtO, geO, cmpI, gcdO, maxO, minO, intO, tupleO, listO]
    · rw [decide_eq_false c] at h0
      simp only [c, decide_false, Bool.not_false]
      generalize D.lst (Q.map pairD) = LL at *
      generalize pairD x = A at *
      generalize pairD q = B at *
      simp [lcT, ct1_law_is_held, ce1_law_is_held, wipeE, h0, fnM, bnd, Mp.ret, lift, stk, seqS, retS, asgS, dropS, ifS, setv, getv, peekv, op1, op2, ap1, ap2, asB, chain2, testM, truM, truO, andV, orV, notV, ifV, andB, orB, notB, argN, argC, mkTup, mkLst, frzd, callM, onMs, subsO, lenO, absO, isiO, D.tg, isTy, tgtT, tgtC, tgtN, par2, par3, forS, seqI, srcD, catO, addO, subO, repO, mulO, fdivO, modO, negO, ltO, leO, gtO, geO, cmpI, gcdO, maxO, minO, intO, tupleO, listO])
  have ef : Q.filterMap (fun x => if (!decide (x = q)) = true then some (pairD x) else none) = (Q.filter (fun x => !decide (x = q))).map pairD := by
    clear hc hl hQ
    induction Q with
    | nil => rfl
    | cons x Q ih =>
      rw [List.filter_cons]
      by_cases c : (!decide (x = q)) = true
      · rw [List.filterMap_cons_some (by rw [if_pos c]), if_pos c, ih, List.map_cons]
      · rw [List.filterMap_cons_none (by rw [if_neg c]), if_neg c, ih]
  rw [ef] at hc
  obtain ⟨s', fl, h1, ⟨x3, x4, x5, x6, rfl⟩, h3⟩ := held_out (L := Q.filter (fun x => !decide (x = q))) (q := q) (ms := s.ms) (.lst (Q.map pairD)) (fun p hp => (hQ p (List.mem_filter.mp hp).1).sm) hq.sm .un .un .un .un
  have hb := held_iff Q q
  generalize hLL : (Q.filter (fun x => !decide (x = q))) = LL at *
  have c1 : c1_law_is_held ⟨[.val (.lst (Q.map pairD)), .val (pairD q), .un, .un, .un, .un, .un, .un], s.ms⟩ = .ok (LL.map pairD) ⟨[.val (.lst (Q.map pairD)), .val (pairD q), .un, .un, .un, .un, .un, .un], s.ms⟩ := by
    unfold c1_law_is_held
    rw [hc]
    simp [restE, wipeE, keepVal]
  generalize D.lst (Q.map pairD) = QQ at *
  generalize pairD q = A at *
  generalize LL.map pairD = L3 at *
  rcases h3 with ⟨rfl, h3⟩ | ⟨rfl, h3⟩
  · rw [heldB_false (by rw [hb]; rintro ⟨a, ha, h4⟩; exact h3 a ha h4)]
    simp [f_law_is_held, m_law_is_held, c1, h1, fnM, bnd, Mp.ret, lift, stk, seqS, retS, asgS, dropS, ifS, setv, getv, peekv, op1, op2, ap1, ap2, asB, chain2, testM, truM, truO, andV, orV, notV, ifV, andB, orB, notB, argN, argC, mkTup, mkLst, frzd, callM, onMs, subsO, lenO, absO, isiO, D.tg, isTy, tgtT, tgtC, tgtN, par2, par3, forS, seqI, srcD, catO, addO, subO, repO, mulO, fdivO, modO, negO, ltO, leO, gtO, geO, cmpI, gcdO, maxO, minO, intO, tupleO, listO]
  · rw [heldB_true (hb.mpr h3)]
    simp [f_law_is_held, m_law_is_held, c1, h1, fnM, bnd, Mp.ret, lift, stk, seqS, retS, asgS, dropS, ifS, setv, getv, peekv, op1, op2, ap1, ap2, asB, chain2, testM, truM, truO, andV, orV, notV, ifV, andB, orB, notB, argN, argC, mkTup, mkLst, frzd, callM, onMs, subsO, lenO, absO, isiO, D.tg, isTy, tgtT, tgtC, tgtN, par2, par3, forS, seqI, srcD, catO, addO, subO, repO, mulO, fdivO, modO, negO, ltO, leO, gtO, geO, cmpI, gcdO, maxO, minO, intO, tupleO, listO]
end K12

set_option linter.all false
set_option maxRecDepth 100000
namespace K12
open Mp Hul
theorem cutD_drop {α : Type} (xs : List α) (i : Nat) : cutD xs (some (i : Int)) none = xs.drop i := by
  unfold cutD
  rw [HT.sIx_none, HT.sIx_nat]
  by_cases h : i ≤ xs.length
  · rw [Nat.min_eq_left h, List.take_of_length_le (by simp)]
  · rw [Nat.min_eq_right (by omega), List.drop_length, List.drop_of_length_le (by omega)]
    simp
theorem cutD_take {α : Type} (xs : List α) (i : Nat) : cutD xs none (some (i : Int)) = xs.take i := by
  unfold cutD
  rw [HT.sIx_none, HT.sIx_nat]
  simp only [List.drop_zero, Nat.sub_zero]
  rw [List.take_eq_take_iff]
  omega
theorem cutD_last {α : Type} (xs : List α) : cutD xs none (some (-1)) = xs.dropLast := by
  unfold cutD
  have hs : HT.sIx xs.length xs.length (some (-1)) = xs.length - 1 := by
    show (if (-1 : Int) < 0 then ((-1 : Int) + (xs.length : Int)).toNat else min (-1 : Int).toNat xs.length) = _
    rw [if_pos (by decide)]
    omega
  rw [HT.sIx_none, hs]
  simp only [List.drop_zero, Nat.sub_zero]
  rw [List.dropLast_eq_take]
theorem atNeg1 {l : List D} {a b : D} : L2.atI (l ++ [b, a]) (-1) = some a := by
  unfold L2.atI L2.ixN
  rw [if_neg (by decide), if_pos (by simp; omega)]
  have : (-1 + ((l ++ [b, a]).length : Int)).toNat = l.length + 1 := by simp; omega
  rw [this]
  simp
theorem atNeg2 {l : List D} {a b : D} : L2.atI (l ++ [b, a]) (-2) = some b := by
  unfold L2.atI L2.ixN
  rw [if_neg (by decide), if_pos (by simp; omega)]
  have : (-2 + ((l ++ [b, a]).length : Int)).toNat = l.length := by simp; omega
  rw [this]
  simp
theorem e_pop (X : D) (p : Pt) (hp : Sm p) (ms : List (List D)) : ∀ st : List Pt, (∀ q ∈ st, Sm q) → w1_chain_of ⟨[.val X, .own (st.reverse.map pairD), .val (pairD p)], ms⟩ = .ok .nx ⟨[.val X, .own ((popTo p st).reverse.map pairD), .val (pairD p)], ms⟩
  | [], _ => by
    unfold popTo
    exact whS_false (by simp [wc1_chain_of, fnM, bnd, Mp.ret, lift, stk, seqS, retS, asgS, dropS, ifS, setv, getv, peekv, op1, op2, ap1, ap2, asB, chain2, testM, truM, truO, andV, orV, notV, ifV, andB, orB, notB, argN, argC, mkTup, mkLst, frzd, callM, onMs, subsO, lenO, absO, isiO, D.tg, isTy, tgtT, tgtC, tgtN, par2, par3, forS, seqI, srcD, catO, addO, subO, repO, mulO, fdivO, modO, negO, ltO, leO, gtO, geO, cmpI, gcdO, maxO, minO, intO, tupleO, listO])
  | [a], _ => by
    unfold popTo
    exact whS_false (by simp [wc1_chain_of, fnM, bnd, Mp.ret, lift, stk, seqS, retS, asgS, dropS, ifS, setv, getv, peekv, op1, op2, ap1, ap2, asB, chain2, testM, truM, truO, andV, orV, notV, ifV, andB, orB, notB, argN, argC, mkTup, mkLst, frzd, callM, onMs, subsO, lenO, absO, isiO, D.tg, isTy, tgtT, tgtC, tgtN, par2, par3, forS, seqI, srcD, catO, addO, subO, repO, mulO, fdivO, modO, negO, ltO, leO, gtO, geO, cmpI, gcdO, maxO, minO, intO, tupleO, listO])
  | a :: b :: r, h => by
    have e : (a :: b :: r).reverse.map pairD = r.reverse.map pairD ++ [pairD b, pairD a] := by simp
    have ht := fun s => e_turn_of b a p s (h b (by simp)) (h a (by simp)) hp
    have ih := e_pop X p hp ms (b :: r) fun q hq => h q (List.mem_cons_of_mem _ hq)
    have hl : 1 < ((r.reverse.map pairD ++ [pairD b, pairD a]).length : Int) := by simp; omega
    have e2 : (b :: r).reverse.map pairD = r.reverse.map pairD ++ [pairD b] := by simp
    unfold popTo
    by_cases c : turn b a p ≤ 0
    · rw [if_pos c]
      rw [e]
      rw [e2] at ih
      have n1 : ∀ s, subsO (.lst (r.reverse.map pairD ++ [pairD b, pairD a])) (.int (-1)) s = some (pairD a) := fun s => atNeg1
      have n2 : ∀ s, subsO (.lst (r.reverse.map pairD ++ [pairD b, pairD a])) (.int (-2)) s = some (pairD b) := fun s => atNeg2
      have a1 := atNeg1 (l := r.reverse.map pairD) (a := pairD a) (b := pairD b)
      have a2 := atNeg2 (l := r.reverse.map pairD) (a := pairD a) (b := pairD b)
      have dl : (r.reverse.map pairD ++ [pairD b, pairD a]).dropLast = r.reverse.map pairD ++ [pairD b] := by
        rw [show r.reverse.map pairD ++ [pairD b, pairD a] = (r.reverse.map pairD ++ [pairD b]) ++ [pairD a] by simp, List.dropLast_concat]
      have ne : r.reverse.map pairD ++ [pairD b, pairD a] ≠ [] := by simp
      generalize r.reverse.map pairD ++ [pairD b, pairD a] = xs at *
      generalize r.reverse.map pairD ++ [pairD b] = ys at *
      refine whS_true (s1 := ⟨[.val X, .own xs, .val (pairD p)], ms⟩) (s2 := ⟨[.val X, .own ys, .val (pairD p)], ms⟩) ?_ ?_ ih (fun h => by cases h)
      · generalize pairD a = A at *
        generalize pairD b = B at *
        generalize pairD p = P at *
        have hl2 : (1 : Int) < xs.length := hl
        have hl3 : 1 < xs.length := by omega
        simp [wc1_chain_of, a1, a2, ht, hl2, hl3, c, fnM, bnd, Mp.ret, lift, stk, seqS, retS, asgS, dropS, ifS, setv, getv, peekv, op1, op2, ap1, ap2, asB, chain2, testM, truM, truO, andV, orV, notV, ifV, andB, orB, notB, argN, argC, mkTup, mkLst, frzd, callM, onMs, subsO, lenO, absO, isiO, D.tg, isTy, tgtT, tgtC, tgtN, par2, par3, forS, seqI, srcD, catO, addO, subO, repO, mulO, fdivO, modO, negO, ltO, leO, gtO, geO, cmpI, gcdO, maxO, minO, intO, tupleO, listO]
      · cases xs with
        | nil => exact absurd rfl ne
        | cons x xs =>
          rw [← dl]
          simp [wb1_chain_of, popS, ownOf]
    · rw [if_neg c, e]
      have a1 := atNeg1 (l := r.reverse.map pairD) (a := pairD a) (b := pairD b)
      have a2 := atNeg2 (l := r.reverse.map pairD) (a := pairD a) (b := pairD b)
      generalize r.reverse.map pairD ++ [pairD b, pairD a] = xs at *
      refine whS_false ?_
      have hl2 : (1 : Int) < xs.length := hl
      have hl3 : 1 < xs.length := by omega
      generalize pairD a = A at *
      generalize pairD b = B at *
      generalize pairD p = P at *
      simp [wc1_chain_of, a1, a2, ht, hl2, hl3, c, fnM, bnd, Mp.ret, lift, stk, seqS, retS, asgS, dropS, ifS, setv, getv, peekv, op1, op2, ap1, ap2, asB, chain2, testM, truM, truO, andV, orV, notV, ifV, andB, orB, notB, argN, argC, mkTup, mkLst, frzd, callM, onMs, subsO, lenO, absO, isiO, D.tg, isTy, tgtT, tgtC, tgtN, par2, par3, forS, seqI, srcD, catO, addO, subO, repO, mulO, fdivO, modO, negO, ltO, leO, gtO, geO, cmpI, gcdO, maxO, minO, intO, tupleO, listO]
theorem popTo_mem {p : Pt} : ∀ {st : List Pt} {q : Pt}, q ∈ popTo p st → q ∈ st
  | [], _, h => h
  | [a], _, h => h
  | a :: b :: r, q, h => by
    unfold popTo at h
    split at h
    · exact List.mem_cons_of_mem _ (popTo_mem h)
    · exact h
theorem popTo_len (p : Pt) : ∀ st : List Pt, (popTo p st).length ≤ st.length
  | [] => Nat.le_refl _
  | [a] => Nat.le_refl _
  | a :: b :: r => by
    unfold popTo
    split
    · exact Nat.le_trans (popTo_len p (b :: r)) (by simp)
    · exact Nat.le_refl _
theorem e_chainL (X : D) (ms : List (List D)) : ∀ (ps st : List Pt) (z : Sl), (∀ q ∈ st, Sm q) → (∀ q ∈ ps, Sm q) → st.length + ps.length ≤ 1000 → ∃ z', forL (setv 2) lb1_chain_of (ps.map pairD) ⟨[.val X, .own (st.reverse.map pairD), z], ms⟩ = .ok .nx ⟨[.val X, .own ((chainS st ps).reverse.map pairD), z'], ms⟩
  | [], st, z, _, _, _ => ⟨z, rfl⟩
  | p :: ps, st, z, h1, h2, hl => by
    have hp := h2 p List.mem_cons_self
    have e := e_pop X p hp ms st h1
    have hl2 := popTo_len p st
    obtain ⟨z', ih⟩ := e_chainL X ms ps (push p st) (.val (pairD p)) (by
      intro q hq
      rcases List.mem_cons.mp hq with rfl | hq
      · exact hp
      · exact h1 q (popTo_mem hq)) (fun q hq => h2 q (List.mem_cons_of_mem _ hq)) (by
      unfold push
      simp only [List.length_cons] at hl ⊢
      omega)
    refine ⟨z', ?_⟩
    rw [List.map_cons, forL_step (s1 := ⟨[.val X, .own (st.reverse.map pairD), .val (pairD p)], ms⟩) (s2 := ⟨[.val X, .own ((push p st).reverse.map pairD), .val (pairD p)], ms⟩), ih]
    · rfl
    · generalize st.reverse.map pairD = xs at *
      simp [fnM, bnd, Mp.ret, lift, stk, seqS, retS, asgS, dropS, ifS, setv, getv, peekv, op1, op2, ap1, ap2, asB, chain2, testM, truM, truO, andV, orV, notV, ifV, andB, orB, notB, argN, argC, mkTup, mkLst, frzd, callM, onMs, subsO, lenO, absO, isiO, D.tg, isTy, tgtT, tgtC, tgtN, par2, par3, forS, seqI, srcD, catO, addO, subO, repO, mulO, fdivO, modO, negO, ltO, leO, gtO, geO, cmpI, gcdO, maxO, minO, intO, tupleO, listO]
    · have e3 : (push p st).reverse.map pairD = (popTo p st).reverse.map pairD ++ [pairD p] := by unfold push; simp
      have hl3 : ((popTo p st).reverse.map pairD).length < 100000 := by simp at hl ⊢; omega
      rw [e3]
      generalize (popTo p st).reverse.map pairD = ys at *
      generalize st.reverse.map pairD = xs at *
      simp [lb1_chain_of, e, appS, ownOf, hl3, fnM, bnd, Mp.ret, lift, stk, seqS, retS, asgS, dropS, ifS, setv, getv, peekv, op1, op2, ap1, ap2, asB, chain2, testM, truM, truO, andV, orV, notV, ifV, andB, orB, notB, argN, argC, mkTup, mkLst, frzd, callM, onMs, subsO, lenO, absO, isiO, D.tg, isTy, tgtT, tgtC, tgtN, par2, par3, forS, seqI, srcD, catO, addO, subO, repO, mulO, fdivO, modO, negO, ltO, leO, gtO, geO, cmpI, gcdO, maxO, minO, intO, tupleO, listO]
theorem e_chain_of (ps : List Pt) (s : S) (h : ∀ q ∈ ps, Sm q) (hl : ps.length ≤ 1000) : f_chain_of [.lst (ps.map pairD)] s = .ok (.lst ((chainS [] ps).reverse.dropLast.map pairD)) s := by
  obtain ⟨z', e⟩ := e_chainL (.lst (ps.map pairD)) s.ms ps [] .un (by simp) h (by simpa using hl)
  have c := cutD_last ((chainS [] ps).reverse.map pairD)
  rw [List.map_dropLast]
  simp only [List.reverse_nil, List.map_nil] at e
  generalize (chainS [] ps).reverse.map pairD = ys at *
  generalize ps.map pairD = xs at *
  simp [f_chain_of, m_chain_of, l1_chain_of, ownS, setown, e, partN, partS, sliceM, slO, c, fnM, bnd, Mp.ret, lift, stk, seqS, retS, asgS, dropS, ifS, setv, getv, peekv, op1, op2, ap1, ap2, asB, chain2, testM, truM, truO, andV, orV, notV, ifV, andB, orB, notB, argN, argC, mkTup, mkLst, frzd, callM, onMs, subsO, lenO, absO, isiO, D.tg, isTy, tgtT, tgtC, tgtN, par2, par3, forS, seqI, srcD, catO, addO, subO, repO, mulO, fdivO, modO, negO, ltO, leO, gtO, geO, cmpI, gcdO, maxO, minO, intO, tupleO, listO]
def ringS (ps : List Pt) : List Pt := (chainS [] (isortP ps)).reverse.dropLast ++ (chainS [] (isortP ps).reverse).reverse.dropLast
theorem push_len (p : Pt) (st : List Pt) : (push p st).length ≤ st.length + 1 := by
  unfold push
  have := popTo_len p st
  simp only [List.length_cons]
  omega
theorem chainS_len : ∀ ps st : List Pt, (chainS st ps).length ≤ st.length + ps.length
  | [], st => Nat.le_refl _
  | p :: ps, st => by
    have a := chainS_len ps (push p st)
    have b := push_len p st
    show (chainS (push p st) ps).length ≤ _
    simp only [List.length_cons]
    omega
theorem e_hull_ring (x : D) (ps : List Pt) (s : S) (hx : x = .lst (ps.map pairD) ∨ x = .tup (ps.map pairD)) (h : ∀ q ∈ ps, Sm q) (hl : ps.length ≤ 1000) : f_hull_ring [x] s = .ok (.lst ((ringS ps).map pairD)) s := by
  have so : ∀ s, sortO x s = some (.lst ((isortP ps).map pairD)) := fun s => by
    have h1 : (ps.map pairD).length ≤ 100000 := by rw [List.length_map]; omega
    rcases hx with rfl | rfl <;> simp [sortO, pairsOf_map, hl] <;> omega
  have pm := isortP_perm ps
  have hm : ∀ q ∈ isortP ps, Sm q := fun q hq => h q (pm.mem_iff.mp hq)
  have hl2 : (isortP ps).length ≤ 1000 := by rw [pm.length_eq]; exact hl
  have e1 := fun s => e_chain_of (isortP ps) s hm hl2
  have e2 := fun s => e_chain_of (isortP ps).reverse s (fun q hq => hm q (List.mem_reverse.mp hq)) (by rw [List.length_reverse]; exact hl2)
  have l1 := chainS_len (isortP ps) []
  have l2 := chainS_len (isortP ps).reverse []
  have rv : ((isortP ps).map pairD).reverse = (isortP ps).reverse.map pairD := by rw [List.map_reverse]
  unfold ringS
  rw [List.map_append]
  have l3 : (((chainS [] (isortP ps)).reverse.dropLast).map pairD).length + (((chainS [] (isortP ps).reverse).reverse.dropLast).map pairD).length ≤ 100000 := by
    simp only [List.length_map, List.length_dropLast, List.length_reverse, List.length_nil] at l1 l2 ⊢
    omega
  generalize ((chainS [] (isortP ps)).reverse.dropLast).map pairD = A at *
  generalize ((chainS [] (isortP ps).reverse).reverse.dropLast).map pairD = B at *
  rw [← rv] at e2
  generalize (isortP ps).map pairD = C at *
  have hr : revO (.lst C) = some (.lst C.reverse) := rfl
  generalize C.reverse = CR at *
  simp [f_hull_ring, m_hull_ring, so, e1, e2, hr, revA, l3, fnM, bnd, Mp.ret, lift, stk, seqS, retS, asgS, dropS, ifS, setv, getv, peekv, op1, op2, ap1, ap2, asB, chain2, testM, truM, truO, andV, orV, notV, ifV, andB, orB, notB, argN, argC, mkTup, mkLst, frzd, callM, onMs, subsO, lenO, absO, isiO, D.tg, isTy, tgtT, tgtC, tgtN, par2, par3, forS, seqI, srcD, catO, addO, subO, repO, mulO, fdivO, modO, negO, ltO, leO, gtO, geO, cmpI, gcdO, maxO, minO, intO, tupleO, listO]
end K12

set_option linter.all false
set_option maxRecDepth 100000
namespace K12
open Mp Hul
theorem bools_map {α : Type} (f : α → Bool) : ∀ l : List α, bools (l.map fun x => D.bl (f x)) = some (l.map f)
  | [] => rfl
  | x :: l => by
    rw [List.map_cons]
    unfold bools
    rw [bools_map f l]
    rfl
theorem all_map {α : Type} (f : α → Bool) (l : List α) : bools (l.map fun x => D.bl (f x)) = some (l.map f) ∧ (l.map f).all id = l.all f := by
  refine ⟨bools_map f l, ?_⟩
  rw [List.all_map]
  rfl
open PySem (NestedKey)
def kp (p : Pt) : NestedKey := .tup [.num p.1, .num p.2]
theorem keys_pp : ∀ ps : List Pt, D.key.keys (ps.map pairD) = some (ps.map kp)
  | [] => rfl
  | p :: ps => by
    rw [List.map_cons]
    unfold D.key.keys
    rw [keys_pp ps]
    rfl
theorem kp_inj {p q : Pt} (h : kp p = kp q) : p = q := by
  unfold kp at h
  simp at h
  exact Prod.ext h.1 h.2
theorem kp_mem {p : Pt} {ps : List Pt} : kp p ∈ ps.map kp ↔ p ∈ ps := by
  rw [List.mem_map]
  constructor
  · rintro ⟨q, hq, e⟩
    rwa [← kp_inj e]
  · intro h
    exact ⟨p, h, rfl⟩
theorem dcount_pp : ∀ ps : List Pt, dcount (ps.map kp) ≤ ps.length ∧ (dcount (ps.map kp) = ps.length ↔ ps.Nodup)
  | [] => by simp [dcount]
  | p :: ps => by
    obtain ⟨h1, h2⟩ := dcount_pp ps
    rw [List.map_cons]
    unfold dcount
    by_cases c : p ∈ ps
    · rw [if_pos (kp_mem.mpr c)]
      refine ⟨by simp only [List.length_cons]; omega, ?_⟩
      constructor
      · intro h
        simp only [List.length_cons] at h
        omega
      · intro h
        exact absurd c (List.nodup_cons.mp h).1
    · rw [if_neg (fun h => c (kp_mem.mp h))]
      refine ⟨by simp only [List.length_cons]; omega, ?_⟩
      rw [List.nodup_cons, ← h2]
      simp only [List.length_cons]
      constructor
      · intro h
        exact ⟨c, by omega⟩
      · rintro ⟨_, h⟩
        omega
theorem kp_ok (p : Pt) : ((kp p).depth ≤ 8) ∧ NS.nt (kp p) = true := by
  unfold kp
  simp [NestedKey.depth, NestedKey.depthAll, NS.nt, NS.ntAll]
theorem e_setLen (ps : List Pt) (hl : ps.length < 64) (s : S) : setLenO (.tup (ps.map pairD)) s = some (.int (dcount (ps.map kp) : Nat)) := by
  have h1 : (ps.map pairD).length < 64 ∧ ((ps.map pairD).all D.isTup) = true := by
    refine ⟨by rwa [List.length_map], ?_⟩
    rw [List.all_map, List.all_eq_true]
    intro p hp
    rfl
  have h2 : (ps.map kp).all (fun k => decide (k.depth ≤ 8) && NS.nt k) = true := by
    rw [List.all_map, List.all_eq_true]
    intro p hp
    have := kp_ok p
    simp only [Function.comp, Bool.and_eq_true, decide_eq_true_eq]
    exact this
  show setLenL (ps.map pairD) = _
  unfold setLenL
  rw [if_pos h1, keys_pp]
  simp only
  rw [if_pos h2]
def colB (ps : List Pt) : Bool := match ps with
  | a :: b :: _ => ps.all fun p => decide (turn a b p = 0)
  | _ => true
def spotsB (ps : List Pt) : Bool := decide (3 ≤ ps.length) && (decide (ps.length ≤ 24) && (decide ps.Nodup && !colB ps))
theorem e_are_spots (ps : List Pt) (s : S) (h : ∀ p ∈ ps, Sp p) (hl : ps.length < 64) : f_are_spots [.tup (ps.map pairD)] s = .ok (.bl (spotsB ps)) s := by
  have hlen : (ps.map pairD).length = ps.length := List.length_map ..
  have c2 := lcM_map pairD ps (vs := [1]) (src := seqI (getv 0)) (t := setv 1) (c := yesM) (f := ce2_are_spots) (fun p => some (D.bl true)) (s := ⟨[.val (.tup (ps.map pairD)), .un], s.ms⟩) (by simp [fnM, bnd, Mp.ret, lift, stk, seqS, retS, asgS, dropS, ifS, setv, getv, peekv, op1, op2, ap1, ap2, asB, chain2, testM, truM, truO, andV, orV, notV, ifV, andB, orB, notB, argN, argC, mkTup, mkLst, frzd, callM, onMs, subsO, lenO, absO, isiO, D.tg, isTy, tgtT, tgtC, tgtN, par2, par3, forS, seqI, srcD, catO, addO, subO, repO, mulO, fdivO, modO, negO, ltO, leO, gtO, geO, cmpI, gcdO, maxO, minO, intO, tupleO, listO]) (by omega) (by simp) (by
    intro x hx
    have e := fun s => e_is_spot x s (h x hx)
    refine ⟨[.val (.tup (ps.map pairD)), .val (pairD x)], ?_, by simp [wipeE]⟩
    generalize D.tup (ps.map pairD) = LL at *
    generalize pairD x = A at *
    simp [lcT, wipeE, yesM, ce2_are_spots, e, fnM, bnd, Mp.ret, lift, stk, seqS, retS, asgS, dropS, ifS, setv, getv, peekv, op1, op2, ap1, ap2, asB, chain2, testM, truM, truO, andV, orV, notV, ifV, andB, orB, notB, argN, argC, mkTup, mkLst, frzd, callM, onMs, subsO, lenO, absO, isiO, D.tg, isTy, tgtT, tgtC, tgtN, par2, par3, forS, seqI, srcD, catO, addO, subO, repO, mulO, fdivO, modO, negO, ltO, leO, gtO, geO, cmpI, gcdO, maxO, minO, intO, tupleO, listO])
  rw [filterMap_some_map] at c2
  obtain ⟨a2, b2⟩ := all_map (fun _ => true) ps
  have b3 : ps.all (fun _ => true) = true := by simp
  rw [b3] at b2
  have c2' : c2_are_spots ⟨[.val (.tup (ps.map pairD)), .un], s.ms⟩ = .ok (ps.map fun _ => D.bl true) ⟨[.val (.tup (ps.map pairD)), .un], s.ms⟩ := by
    unfold c2_are_spots
    rw [c2]
    simp [restE, wipeE, keepVal]
  have sl := fun s => e_setLen ps hl s
  obtain ⟨d1, d2⟩ := dcount_pp ps
  unfold spotsB
  by_cases n3 : 3 ≤ ps.length
  · by_cases n24 : ps.length ≤ 24
    · rw [decide_eq_true n3, decide_eq_true n24]
      have n3' : (3 : Int) ≤ (ps.length : Int) := by omega
      have n24' : (ps.length : Int) ≤ 24 := by omega
      by_cases nd : ps.Nodup
      · rw [decide_eq_true nd]
        rw [d2.mpr nd] at sl
        obtain ⟨a, b, r, rfl⟩ : ∃ a b r, ps = a :: b :: r := by
          match ps, n3 with
          | a :: b :: r, _ => exact ⟨a, b, r, rfl⟩
        have c1 := lcM_map pairD (a :: b :: r) (vs := [1]) (src := seqI (getv 0)) (t := setv 1) (c := yesM) (f := ce1_are_spots) (fun p => some (D.bl (decide (turn a b p = 0)))) (s := ⟨[.val (.tup ((a :: b :: r).map pairD)), .un], s.ms⟩) (by simp [fnM, bnd, Mp.ret, lift, stk, seqS, retS, asgS, dropS, ifS, setv, getv, peekv, op1, op2, ap1, ap2, asB, chain2, testM, truM, truO, andV, orV, notV, ifV, andB, orB, notB, argN, argC, mkTup, mkLst, frzd, callM, onMs, subsO, lenO, absO, isiO, D.tg, isTy, tgtT, tgtC, tgtN, par2, par3, forS, seqI, srcD, catO, addO, subO, repO, mulO, fdivO, modO, negO, ltO, leO, gtO, geO, cmpI, gcdO, maxO, minO, intO, tupleO, listO]) (by omega) (by simp) (by
          intro x hx
          have e := fun s => e_turn_of a b x s (h a (by simp)).sm (h b (by simp)).sm (h x hx).sm
          refine ⟨[.val (.tup ((a :: b :: r).map pairD)), .val (pairD x)], ?_, by simp [wipeE]⟩
          simp only [List.map_cons]
          generalize r.map pairD = LL at *
          generalize pairD x = X at *
          generalize pairD a = A at *
          generalize pairD b = B at *
          simp [lcT, wipeE, yesM, ce1_are_spots, at0, at1, e, eq_int, fnM, bnd, Mp.ret, lift, stk, seqS, retS, asgS, dropS, ifS, setv, getv, peekv, op1, op2, ap1, ap2, asB, chain2, testM, truM, truO, andV, orV, notV, ifV, andB, orB, notB, argN, argC, mkTup, mkLst, frzd, callM, onMs, subsO, lenO, absO, isiO, D.tg, isTy, tgtT, tgtC, tgtN, par2, par3, forS, seqI, srcD, catO, addO, subO, repO, mulO, fdivO, modO, negO, ltO, leO, gtO, geO, cmpI, gcdO, maxO, minO, intO, tupleO, listO])
        rw [filterMap_some_map] at c1
        obtain ⟨a1, b1⟩ := all_map (fun p => decide (turn a b p = 0)) (a :: b :: r)
        have c1' : c1_are_spots ⟨[.val (.tup ((a :: b :: r).map pairD)), .un], s.ms⟩ = .ok ((a :: b :: r).map fun p => D.bl (decide (turn a b p = 0))) ⟨[.val (.tup ((a :: b :: r).map pairD)), .un], s.ms⟩ := by
          unfold c1_are_spots
          rw [c1]
          simp [restE, wipeE, keepVal]
        have hcol : colB (a :: b :: r) = (a :: b :: r).all (fun p => decide (turn a b p = 0)) := rfl
        rw [hcol]
        generalize (a :: b :: r).all (fun p => decide (turn a b p = 0)) = cb at *
        generalize (a :: b :: r).map pairD = xs at *
        generalize (a :: b :: r).map (fun p => D.bl (decide (turn a b p = 0))) = ys at *
        generalize (a :: b :: r).map (fun _ => D.bl true) = zs at *
        generalize (a :: b :: r).map (fun p => decide (turn a b p = 0)) = yb at *
        generalize (a :: b :: r).map (fun _ => true) = zb at *
        generalize (a :: b :: r).length = N at *
        simp [f_are_spots, m_are_spots, hlen, n3', n24', n3, n24, c2', allO, a2, b2, sl, c1', a1, b1, fnM, bnd, Mp.ret, lift, stk, seqS, retS, asgS, dropS, ifS, setv, getv, peekv, op1, op2, ap1, ap2, asB, chain2, testM, truM, truO, andV, orV, notV, ifV, andB, orB, notB, argN, argC, mkTup, mkLst, frzd, callM, onMs, subsO, lenO, absO, isiO, D.tg, isTy, tgtT, tgtC, tgtN, par2, par3, forS, seqI, srcD, catO, addO, subO, repO, mulO, fdivO, modO, negO, ltO, leO, gtO, geO, cmpI, gcdO, maxO, minO, intO, tupleO, listO]
      · rw [decide_eq_false nd]
        have lt' : dcount (ps.map kp) < ps.length := by
          rcases Nat.lt_or_eq_of_le d1 with h | h
          · exact h
          · exact absurd (d2.mp h) nd
        generalize dcount (ps.map kp) = M at *
        generalize ps.map pairD = xs at *
        generalize ps.map (fun _ => D.bl true) = zs at *
        generalize ps.map (fun _ => true) = zb at *
        generalize ps.length = N at *
        simp [f_are_spots, m_are_spots, hlen, n3', n24', n3, n24, c2', allO, a2, b2, sl, lt', fnM, bnd, Mp.ret, lift, stk, seqS, retS, asgS, dropS, ifS, setv, getv, peekv, op1, op2, ap1, ap2, asB, chain2, testM, truM, truO, andV, orV, notV, ifV, andB, orB, notB, argN, argC, mkTup, mkLst, frzd, callM, onMs, subsO, lenO, absO, isiO, D.tg, isTy, tgtT, tgtC, tgtN, par2, par3, forS, seqI, srcD, catO, addO, subO, repO, mulO, fdivO, modO, negO, ltO, leO, gtO, geO, cmpI, gcdO, maxO, minO, intO, tupleO, listO]
    · rw [decide_eq_true n3, decide_eq_false n24]
      have n3' : (3 : Int) ≤ (ps.length : Int) := by omega
      have n24' : ¬ (ps.length : Int) ≤ 24 := by omega
      generalize ps.map pairD = xs at *
      generalize ps.length = N at *
      simp [f_are_spots, m_are_spots, hlen, n3', n24', n3, n24, fnM, bnd, Mp.ret, lift, stk, seqS, retS, asgS, dropS, ifS, setv, getv, peekv, op1, op2, ap1, ap2, asB, chain2, testM, truM, truO, andV, orV, notV, ifV, andB, orB, notB, argN, argC, mkTup, mkLst, frzd, callM, onMs, subsO, lenO, absO, isiO, D.tg, isTy, tgtT, tgtC, tgtN, par2, par3, forS, seqI, srcD, catO, addO, subO, repO, mulO, fdivO, modO, negO, ltO, leO, gtO, geO, cmpI, gcdO, maxO, minO, intO, tupleO, listO]
  · rw [decide_eq_false n3]
    have n3' : ¬ (3 : Int) ≤ (ps.length : Int) := by omega
    generalize ps.map pairD = xs at *
    generalize ps.length = N at *
    simp [f_are_spots, m_are_spots, hlen, n3', n3, fnM, bnd, Mp.ret, lift, stk, seqS, retS, asgS, dropS, ifS, setv, getv, peekv, op1, op2, ap1, ap2, asB, chain2, testM, truM, truO, andV, orV, notV, ifV, andB, orB, notB, argN, argC, mkTup, mkLst, frzd, callM, onMs, subsO, lenO, absO, isiO, D.tg, isTy, tgtT, tgtC, tgtN, par2, par3, forS, seqI, srcD, catO, addO, subO, repO, mulO, fdivO, modO, negO, ltO, leO, gtO, geO, cmpI, gcdO, maxO, minO, intO, tupleO, listO]
theorem e_hull (ps : List Pt) (s : S) (h : ∀ p ∈ ps, Sp p) (hl : ps.length < 64) (hb : spotsB ps = true) : f_hull [.tup (ps.map pairD)] s = .ok (.tup ((ringS ps).map pairD)) s := by
  have e1 := fun s => e_are_spots ps s h hl
  rw [hb] at e1
  have e2 := fun s => e_hull_ring (.tup (ps.map pairD)) ps s (.inr rfl) (fun p hp => (h p hp).sm) (by omega)
  generalize (ringS ps).map pairD = R at *
  generalize D.tup (ps.map pairD) = X at *
  simp [f_hull, m_hull, f_want_spots, m_want_spots, e1, e2, tupleO, fnM, bnd, Mp.ret, lift, stk, seqS, retS, asgS, dropS, ifS, setv, getv, peekv, op1, op2, ap1, ap2, asB, chain2, testM, truM, truO, andV, orV, notV, ifV, andB, orB, notB, argN, argC, mkTup, mkLst, frzd, callM, onMs, subsO, lenO, absO, isiO, D.tg, isTy, tgtT, tgtC, tgtN, par2, par3, forS, seqI, srcD, catO, addO, subO, repO, mulO, fdivO, modO, negO, ltO, leO, gtO, geO, cmpI, gcdO, maxO, minO, intO, tupleO, listO]
theorem e_hull_bad (x : D) (s : S) (h : ∀ s, f_are_spots [x] s = .ok (.bl false) s) : f_hull [x] s = .err (.ref 0) [("value", x)] s := by
  simp [f_hull, m_hull, f_want_spots, m_want_spots, h, raise1, fnM, bnd, Mp.ret, lift, stk, seqS, retS, asgS, dropS, ifS, setv, getv, peekv, op1, op2, ap1, ap2, asB, chain2, testM, truM, truO, andV, orV, notV, ifV, andB, orB, notB, argN, argC, mkTup, mkLst, frzd, callM, onMs, subsO, lenO, absO, isiO, D.tg, isTy, tgtT, tgtC, tgtN, par2, par3, forS, seqI, srcD, catO, addO, subO, repO, mulO, fdivO, modO, negO, ltO, leO, gtO, geO, cmpI, gcdO, maxO, minO, intO, tupleO, listO]
end K12

set_option linter.all false
set_option maxRecDepth 100000
namespace K12
open Mp Hul
theorem lt_of_le {p q : Pt} (h : leP p q) (n : p ≠ q) : lt p q := by
  rw [leP_iff] at h
  unfold lt
  have : ¬ (p.1 = q.1 ∧ p.2 = q.2) := fun e => n (Prod.ext e.1 e.2)
  omega
theorem le_of_lt {p q : Pt} (h : lt p q) : leP p q := by
  rw [leP_iff]
  unfold lt at h
  omega
theorem sort_lt {ps : List Pt} (nd : ps.Nodup) : (isortP ps).Pairwise lt := by
  have h1 := isortP_sorted ps
  have h2 : (isortP ps).Nodup := (isortP_perm ps).nodup_iff.mpr nd
  exact h1.imp₂ (fun a b x y => lt_of_le x y) h2
theorem side_congr {L : Pt → Pt → Prop} {Q Q' C : List Pt} {m M : Pt} (s : Side L Q C m M) (h : ∀ q, q ∈ Q ↔ q ∈ Q') : Side L Q' C m M :=
  ⟨s.so, s.tri, fun e he => ⟨(s.ed e he).1, fun q hq => (s.ed e he).2 q ((h q).mpr hq)⟩, fun x hx => (h x).mp (s.su x hx), s.hd, s.la, fun q hq => s.lo q ((h q).mpr hq), fun q hq => s.hi q ((h q).mpr hq)⟩
theorem colB_false {ps : List Pt} (h : colB ps = false) : ∃ a b r p, ps = a :: b :: r ∧ p ∈ ps ∧ turn a b p ≠ 0 := by
  unfold colB at h
  split at h
  · rename_i a b r
    rw [List.all_eq_false] at h
    obtain ⟨p, hp, h⟩ := h
    exact ⟨a, b, r, p, rfl, hp, by simpa using h⟩
  · cases h
theorem colB_true {ps : List Pt} {x y : Pt} (hx : x ≠ y) (h : ∀ p ∈ ps, turn x y p = 0) : colB ps = true := by
  unfold colB
  split
  · rename_i a b r
    rw [List.all_eq_true]
    intro p hp
    exact decide_eq_true (col_any hx (h a (by simp)) (h b (by simp)) (h p hp))
  · rfl
theorem colB_perm {ps qs : List Pt} (pm : ps.Perm qs) (nd : ps.Nodup) (h : colB ps = false) : colB qs = false := by
  obtain ⟨a, b, r, p, e, hp, hn⟩ := colB_false h
  rw [← Bool.not_eq_true]
  intro z
  have hl : 2 ≤ qs.length := by rw [← pm.length_eq, e]; simp
  have ndq : qs.Nodup := pm.nodup_iff.mp nd
  obtain ⟨x, y, r2, rfl⟩ : ∃ x y r, qs = x :: y :: r := by
    match qs, hl with
    | x :: y :: r, _ => exact ⟨x, y, r, rfl⟩
  have z2 : (x :: y :: r2).all (fun p => decide (turn x y p = 0)) = true := z
  rw [List.all_eq_true] at z2
  have hxy : x ≠ y := by
    intro e
    subst e
    simp at ndq
  have f : ∀ q ∈ ps, turn x y q = 0 := fun q hq => of_decide_eq_true (z2 q (pm.mem_iff.mp hq))
  exact hn (col_any hxy (f a (by rw [e]; simp)) (f b (by rw [e]; simp)) (f p hp))
theorem hull_all {ps : List Pt} (nd : ps.Nodup) (nc : colB ps = false) : HullOk ps (ringS ps) := by
  have so := sort_lt nd
  have pm := isortP_perm ps
  obtain ⟨a0, b0, r0, p0, e0, hp0, hn0⟩ := colB_false nc
  have hl : 2 ≤ (isortP ps).length := by rw [pm.length_eq, e0]; simp
  unfold ringS
  generalize isortP ps = L at *
  obtain ⟨m, y, r, rfl⟩ : ∃ x y r, L = x :: y :: r := by
    match L, hl with
    | x :: y :: r, _ => exact ⟨x, y, r, rfl⟩
  obtain ⟨M, sC, hM⟩ := side_up so
  have so2 : (m :: y :: r).reverse.Pairwise (fun x y => lt y x) := List.pairwise_reverse.mpr so
  have hrev : (m :: y :: r).reverse.head? = some M := by rw [List.head?_reverse]; exact hM
  have hrevl : (m :: y :: r).reverse.getLast? = some m := by rw [List.getLast?_reverse]; rfl
  have mr : ∀ q, q ∈ (m :: y :: r).reverse ↔ q ∈ m :: y :: r := fun q => List.mem_reverse
  generalize (m :: y :: r).reverse = R at *
  obtain ⟨R', rfl⟩ : ∃ R', R = M :: R' := by
    cases R with
    | nil => cases hrev
    | cons x R => cases hrev; exact ⟨R, rfl⟩
  obtain ⟨m2, sD, hm2⟩ := side_down so2
  have : m2 = m := by rw [hrevl] at hm2; exact (Option.some.inj hm2).symm
  subst this
  have hmM : lt m2 M := by
    have h1 : M ∈ y :: r := List.mem_of_getLast? (by rw [← hM, List.getLast?_cons_cons])
    exact (List.pairwise_cons.mp so).1 M h1
  refine ring_ok (side_congr sC fun q => pm.mem_iff) (side_congr sD fun q => (mr q).trans pm.mem_iff) hmM ⟨a0, ?_, b0, ?_, p0, hp0, hn0⟩
  · rw [e0]; simp
  · rw [e0]; simp
theorem ring_rev {ps : List Pt} : ringS ps.reverse = ringS ps := by
  have : isortP ps.reverse = isortP ps := sorted_uniq (isortP_sorted _) (isortP_sorted _) (((isortP_perm _).trans (List.reverse_perm ps)).trans (isortP_perm ps).symm)
  unfold ringS
  rw [this]
theorem spotsB_rev {ps : List Pt} (h : spotsB ps = true) : spotsB ps.reverse = true := by
  unfold spotsB at *
  simp only [Bool.and_eq_true, Bool.not_eq_true', decide_eq_true_eq] at h
  obtain ⟨h1, h2, h3, h4⟩ := h
  rw [colB_perm (List.reverse_perm ps).symm h3 h4]
  simp [h1, h2, (List.reverse_perm ps).nodup_iff.mpr h3]
theorem ring_sorted {ps : List Pt} (nd : ps.Nodup) (ok : HullOk ps (ringS ps)) : isortP (ringS ps) = isortP (ps.filter fun p => !heldB ps p) := by
  refine sorted_uniq (isortP_sorted _) (isortP_sorted _) (((isortP_perm _).trans ?_).trans (isortP_perm _).symm)
  refine (List.perm_ext_iff_of_nodup ok.nd (nd.filter _)).mpr fun q => ?_
  rw [List.mem_filter]
  constructor
  · intro hq
    exact ⟨ok.su q hq, by rw [heldB_false (ok.nh q hq)]; rfl⟩
  · rintro ⟨h1, h2⟩
    by_cases c : q ∈ ringS ps
    · exact c
    · rw [heldB_true (ok.he q h1 c)] at h2
      cases h2
theorem ring_first {ps : List Pt} (ok : HullOk ps (ringS ps)) : ∃ m R' S', ringS ps = m :: R' ∧ isortP (ringS ps) = m :: S' := by
  obtain ⟨m, h1, h2⟩ := ok.hd
  have so := isortP_sorted (ringS ps)
  have pm := isortP_perm (ringS ps)
  have hm : m ∈ ringS ps := by
    cases z : ringS ps with
    | nil => rw [z] at h1; cases h1
    | cons x R =>
      rw [z] at h1
      cases h1
      exact List.mem_cons_self
  cases z : isortP (ringS ps) with
  | nil =>
    rw [z] at pm
    have := pm.mem_iff.mpr hm
    cases this
  | cons x S' =>
    have hx : x ∈ ringS ps := by rw [← pm.mem_iff, z]; exact List.mem_cons_self
    have hxm : x = m := by
      rcases h2 x (ok.su x hx) with e | l
      · exact e
      · rw [z] at so pm
        rcases List.mem_cons.mp (pm.mem_iff.mpr hm) with e | hmS
        · exact e.symm
        · exact leP_anti ((List.pairwise_cons.mp so).1 m hmS) (le_of_lt l)
    subst hxm
    cases z2 : ringS ps with
    | nil => rw [z2] at h1; cases h1
    | cons y R =>
      rw [z2] at h1
      cases h1
      exact ⟨_, R, S', rfl, rfl⟩
theorem rot12 {x y z : Pt} {R : List Pt} {i : Nat} (l : 2 ≤ R.length) (h1 : R[i]? = some x) (h2 : (rot 1 R)[i]? = some y) (h3 : (rot 2 R)[i]? = some z) : (x, y) ∈ edges R ∧ (y, z) ∈ edges R := by
  obtain ⟨a, b, r, rfl⟩ : ∃ a b r, R = a :: b :: r := by
    match R, l with
    | a :: b :: r, _ => exact ⟨a, b, r, rfl⟩
  have e1 : rot 1 (a :: b :: r) = (b :: r) ++ [a] := rfl
  have e2 : rot 2 (a :: b :: r) = (r ++ [a]) ++ [b] := by unfold rot; simp
  have hz1 : ∀ {A B : List Pt} {i : Nat} {u v : Pt}, A[i]? = some u → B[i]? = some v → (u, v) ∈ A.zip B := fun {A B i u v} p q => by
    refine List.mem_of_getElem? (i := i) ?_
    rw [List.getElem?_zip_eq_some]
    exact ⟨p, q⟩
  refine ⟨hz1 h1 h2, ?_⟩
  have h4 : (y, z) ∈ (rot 1 (a :: b :: r)).zip (rot 2 (a :: b :: r)) := hz1 h2 h3
  rw [e1, e2, List.zip_append (by simp)] at h4
  have e3 : edges (a :: b :: r) = (a, b) :: (b :: r).zip (r ++ [a]) := rfl
  rw [e3]
  rcases List.mem_append.mp h4 with h | h
  · exact List.mem_cons_of_mem _ h
  · simp at h
    rw [h.1, h.2]
    exact List.mem_cons_self
end K12

set_option linter.all false
set_option maxRecDepth 100000
namespace K12
open Mp Hul
theorem rot_map (n : Nat) (R : List Pt) : (rot n R).map pairD = (R.map pairD).drop n ++ (R.map pairD).take n := by
  unfold rot
  rw [List.map_append, List.map_drop, List.map_take]
theorem rot_len (n : Nat) (R : List Pt) : (rot n R).length = R.length := by
  unfold rot
  rw [List.length_append, List.length_drop, List.length_take]
  omega
theorem getD_pair {R : List Pt} {i : Nat} {p : Pt} (h : R[i]? = some p) : (R.map pairD).getD i .non = pairD p := by
  rw [List.getD_eq_getElem?_getD, List.getElem?_map, h]
  rfl
theorem getD_pt {R : List Pt} {i : Nat} {p : Pt} (h : R[i]? = some p) : R.getD i (0, 0) = p := by
  rw [List.getD_eq_getElem?_getD, h]
  rfl
theorem rot_mem {n : Nat} {R : List Pt} {p : Pt} (h : p ∈ rot n R) : p ∈ R := by
  unfold rot at h
  rcases List.mem_append.mp h with h | h
  · exact List.mem_of_mem_drop h
  · exact List.mem_of_mem_take h
def turnsL (R : List Pt) : List Int := (List.range R.length).map fun i => turn (R.getD i (0, 0)) ((rot 1 R).getD i (0, 0)) ((rot 2 R).getD i (0, 0))
theorem turns_pos {Q R : List Pt} (ok : HullOk Q R) : ∀ t ∈ turnsL R, 0 < t := by
  intro t ht
  obtain ⟨i, hi, rfl⟩ := List.mem_map.mp ht
  have hi := List.mem_range.mp hi
  have h1 : R[i]? = some R[i] := List.getElem?_eq_getElem hi
  have h2 : (rot 1 R)[i]? = some ((rot 1 R)[i]'(by rw [rot_len]; exact hi)) := List.getElem?_eq_getElem _
  have h3 : (rot 2 R)[i]? = some ((rot 2 R)[i]'(by rw [rot_len]; exact hi)) := List.getElem?_eq_getElem _
  obtain ⟨e1, e2⟩ := rot12 (by have := ok.l3; omega) h1 h2 h3
  rw [getD_pt h1, getD_pt h2, getD_pt h3]
  exact ok.e5 _ _ _ e1 e2
section
variable (P Du Tu : Sl) (SP : D) (ms : List (List D)) {R : List Pt}
theorem e_turns (h : ∀ p ∈ R, Sm p) (l0 : R.length ≤ 1000) :
    c2_law_hull_right ⟨[P, .val SP, .val .non, .un, .val (.tup (R.map pairD)), Du, .un, .un, .un, .un, .un], ms⟩ = .ok ((turnsL R).map .int) ⟨[P, .val SP, .val .non, .un, .val (.tup (R.map pairD)), Du, .un, .un, .un, .un, .un], ms⟩ := by
  have hlen : (R.map pairD).length = R.length := List.length_map ..
  have c0 : (R.map pairD).length ≤ 100000 := by rw [hlen]; omega
  have d1 : cutD (R.map pairD) (some 1) none = (R.map pairD).drop 1 := cutD_drop _ 1
  have d2 : cutD (R.map pairD) (some 2) none = (R.map pairD).drop 2 := cutD_drop _ 2
  have t1 : cutD (R.map pairD) none (some 1) = (R.map pairD).take 1 := cutD_take _ 1
  have t2 : cutD (R.map pairD) none (some 2) = (R.map pairD).take 2 := cutD_take _ 2
  have z3 : zip3L (R.map pairD) ((rot 1 R).map pairD) ((rot 2 R).map pairD) = (List.range R.length).map fun i => .tup [(R.map pairD).getD i .non, ((rot 1 R).map pairD).getD i .non, ((rot 2 R).map pairD).getD i .non] := by
    unfold zip3L
    simp only [List.length_map, rot_len, Nat.min_self]
  rw [rot_map, rot_map] at z3
  have src : (overA zipO (argC (getv 4) (argC (op2 catO (sliceM (peekv 4) (partS (ret (.int 1))) partN) (sliceM (peekv 4) partN (partS (ret (.int 1))))) (argC (op2 catO (sliceM (peekv 4) (partS (ret (.int 2))) partN) (sliceM (peekv 4) partN (partS (ret (.int 2))))) argN)))) ⟨[P, .val SP, .val .non, .un, .val (.tup (R.map pairD)), Du, .un, .un, .un, .un, .un], ms⟩ = .ok ((List.range R.length).map fun i => .tup [(R.map pairD).getD i .non, ((R.map pairD).drop 1 ++ (R.map pairD).take 1).getD i .non, ((R.map pairD).drop 2 ++ (R.map pairD).take 2).getD i .non]) ⟨[P, .val SP, .val .non, .un, .val (.tup (R.map pairD)), Du, .un, .un, .un, .un, .un], ms⟩ := by
    rw [← z3]
    have b1 : ((R.map pairD).drop 1).length + ((R.map pairD).take 1).length ≤ 100000 := by rw [List.length_drop, List.length_take]; omega
    have b2 : ((R.map pairD).drop 2).length + ((R.map pairD).take 2).length ≤ 100000 := by rw [List.length_drop, List.length_take]; omega
    generalize (R.map pairD).drop 1 = A1 at *
    generalize (R.map pairD).take 1 = A2 at *
    generalize (R.map pairD).drop 2 = A3 at *
    generalize (R.map pairD).take 2 = A4 at *
    generalize R.map pairD = A at *
    simp [overA, zipO, sliceM, slO, partS, partN, d1, d2, t1, t2, b1, b2, fnM, bnd, Mp.ret, lift, stk, seqS, retS, asgS, dropS, ifS, setv, getv, peekv, op1, op2, ap1, ap2, asB, chain2, testM, truM, truO, andV, orV, notV, ifV, andB, orB, notB, argN, argC, mkTup, mkLst, frzd, callM, onMs, subsO, lenO, absO, isiO, D.tg, isTy, tgtT, tgtC, tgtN, par2, par3, forS, seqI, srcD, catO, addO, subO, repO, mulO, fdivO, modO, negO, ltO, leO, gtO, geO, cmpI, gcdO, maxO, minO, intO, tupleO, listO]
  have := lcM_map (fun i : Nat => D.tup [(R.map pairD).getD i .non, ((R.map pairD).drop 1 ++ (R.map pairD).take 1).getD i .non, ((R.map pairD).drop 2 ++ (R.map pairD).take 2).getD i .non]) (List.range R.length) (vs := [7, 8, 10]) (src := (overA zipO (argC (getv 4) (argC (op2 catO (sliceM (peekv 4) (partS (ret (.int 1))) partN) (sliceM (peekv 4) partN (partS (ret (.int 1))))) (argC (op2 catO (sliceM (peekv 4) (partS (ret (.int 2))) partN) (sliceM (peekv 4) partN (partS (ret (.int 2))))) argN))))) (t := (tgtT 3 (tgtC (setv 7) (tgtC (setv 8) (tgtC (setv 10) tgtN))))) (c := yesM) (f := ce2_law_hull_right) (fun i => some (.int (turn (R.getD i (0, 0)) ((rot 1 R).getD i (0, 0)) ((rot 2 R).getD i (0, 0))))) src (by rw [List.length_range]; omega) (by simp) (by
    intro i hi
    have hi := List.mem_range.mp hi
    obtain ⟨x, h1⟩ : ∃ x, R[i]? = some x := ⟨_, List.getElem?_eq_getElem hi⟩
    obtain ⟨y, h2⟩ : ∃ y, (rot 1 R)[i]? = some y := ⟨_, List.getElem?_eq_getElem (by rw [rot_len]; exact hi)⟩
    obtain ⟨z, h3⟩ : ∃ z, (rot 2 R)[i]? = some z := ⟨_, List.getElem?_eq_getElem (by rw [rot_len]; exact hi)⟩
    have e := fun s => e_law_turn x y z s (h x (List.mem_of_getElem? h1)) (h y (rot_mem (List.mem_of_getElem? h2))) (h z (rot_mem (List.mem_of_getElem? h3)))
    rw [← rot_map, ← rot_map, getD_pair h1, getD_pair h2, getD_pair h3, getD_pt h1, getD_pt h2, getD_pt h3]
    refine ⟨[P, .val SP, .val .non, .un, .val (.tup (R.map pairD)), Du, .un, .val (pairD x), .val (pairD y), .un, .val (pairD z)], ?_, by simp [wipeE]⟩
    generalize R.map pairD = A at *
    generalize pairD x = X at *
    generalize pairD y = Y at *
    generalize pairD z = Z at *
    simp [lcT, wipeE, yesM, ce2_law_hull_right, e, fnM, bnd, Mp.ret, lift, stk, seqS, retS, asgS, dropS, ifS, setv, getv, peekv, op1, op2, ap1, ap2, asB, chain2, testM, truM, truO, andV, orV, notV, ifV, andB, orB, notB, argN, argC, mkTup, mkLst, frzd, callM, onMs, subsO, lenO, absO, isiO, D.tg, isTy, tgtT, tgtC, tgtN, par2, par3, forS, seqI, srcD, catO, addO, subO, repO, mulO, fdivO, modO, negO, ltO, leO, gtO, geO, cmpI, gcdO, maxO, minO, intO, tupleO, listO])
  unfold c2_law_hull_right
  rw [this, filterMap_some_map]
  unfold turnsL
  rw [List.map_map]
  simp [restE, wipeE, keepVal]
theorem e_edges {qs : List Pt} (h : ∀ p ∈ R, Sm p) (hq : ∀ p ∈ qs, Sm p) (l0 : R.length ≤ 1000) (l1 : qs.length ≤ 1000) (ne : qs ≠ []) (he : ∀ e ∈ edges R, ∀ q ∈ qs, 0 ≤ turn e.1 e.2 q) :
    ∃ x7 x8, l1_law_hull_right ⟨[P, .val (.lst (qs.map pairD)), .val .non, .un, .val (.tup (R.map pairD)), Du, Tu, .un, .un, .un, .un], ms⟩ = .ok .nx ⟨[P, .val (.lst (qs.map pairD)), .val .non, .un, .val (.tup (R.map pairD)), Du, Tu, x7, x8, .un, .un], ms⟩ := by
  have hlen : (R.map pairD).length = R.length := List.length_map ..
  have d1 : cutD (R.map pairD) (some 1) none = (R.map pairD).drop 1 := cutD_drop _ 1
  have t1 : cutD (R.map pairD) none (some 1) = (R.map pairD).take 1 := cutD_take _ 1
  have b1 : ((R.map pairD).drop 1).length + ((R.map pairD).take 1).length ≤ 100000 := by rw [List.length_drop, List.length_take]; omega
  have zz : ∀ d ∈ zipL (R.map pairD) ((rot 1 R).map pairD), ∃ x y, d = .tup [pairD x, pairD y] ∧ (x, y) ∈ edges R := by
    intro d hd
    unfold zipL at hd
    obtain ⟨i, hi, rfl⟩ := List.mem_map.mp hd
    have hi := List.mem_range.mp hi
    simp only [List.length_map, rot_len, Nat.min_self] at hi
    obtain ⟨x, h1⟩ : ∃ x, R[i]? = some x := ⟨_, List.getElem?_eq_getElem hi⟩
    obtain ⟨y, h2⟩ : ∃ y, (rot 1 R)[i]? = some y := ⟨_, List.getElem?_eq_getElem (by rw [rot_len]; exact hi)⟩
    rw [getD_pair h1, getD_pair h2]
    refine ⟨x, y, rfl, ?_⟩
    unfold edges
    refine List.mem_of_getElem? (i := i) ?_
    rw [List.getElem?_zip_eq_some]
    exact ⟨h1, h2⟩
  rw [rot_map] at zz
  obtain ⟨s', e, hs, x7, x8, rfl⟩ := forL_inv (t := (tgtT 2 (tgtC (setv 7) (tgtC (setv 8) tgtN)))) (b := lb1_law_hull_right) (fun xs s => (∀ d ∈ xs, ∃ x y, d = .tup [pairD x, pairD y] ∧ (x, y) ∈ edges R) ∧ ∃ x7 x8, s = ⟨[P, .val (.lst (qs.map pairD)), .val .non, .un, .val (.tup (R.map pairD)), Du, Tu, x7, x8, .un, .un], ms⟩)
    (xs := zipL (R.map pairD) ((R.map pairD).drop 1 ++ (R.map pairD).take 1)) (s := ⟨[P, .val (.lst (qs.map pairD)), .val .non, .un, .val (.tup (R.map pairD)), Du, Tu, .un, .un, .un, .un], ms⟩) ⟨zz, _, _, rfl⟩ (by
      rintro d xs _ ⟨hx, x7, x8, rfl⟩
      obtain ⟨x, y, rfl, hxy⟩ := hx d List.mem_cons_self
      have hxR : Sm x := h x (List.of_mem_zip hxy).1
      have hyR : Sm y := h y (rot_mem (List.of_mem_zip hxy).2)
      have hq0 := he _ hxy
      refine ⟨⟨[P, .val (.lst (qs.map pairD)), .val .non, .un, .val (.tup (R.map pairD)), Du, Tu, .val (pairD x), .val (pairD y), .un, .un], ms⟩, ⟨[P, .val (.lst (qs.map pairD)), .val .non, .un, .val (.tup (R.map pairD)), Du, Tu, .val (pairD x), .val (pairD y), .un, .un], ms⟩, ?_, ?_, fun d hd => hx d (List.mem_cons_of_mem _ hd), _, _, rfl⟩
      · generalize R.map pairD = A at *
        generalize qs.map pairD = B at *
        generalize pairD x = X at *
        generalize pairD y = Y at *
        simp [fnM, bnd, Mp.ret, lift, stk, seqS, retS, asgS, dropS, ifS, setv, getv, peekv, op1, op2, ap1, ap2, asB, chain2, testM, truM, truO, andV, orV, notV, ifV, andB, orB, notB, argN, argC, mkTup, mkLst, frzd, callM, onMs, subsO, lenO, absO, isiO, D.tg, isTy, tgtT, tgtC, tgtN, par2, par3, forS, seqI, srcD, catO, addO, subO, repO, mulO, fdivO, modO, negO, ltO, leO, gtO, geO, cmpI, gcdO, maxO, minO, intO, tupleO, listO]
      · have c := lcM_map pairD qs (vs := [9]) (src := seqI (getv 1)) (t := setv 9) (c := yesM) (f := ce1_law_hull_right) (fun q => some (D.int (turn x y q))) (s := ⟨[P, .val (.lst (qs.map pairD)), .val .non, .un, .val (.tup (R.map pairD)), Du, Tu, .val (pairD x), .val (pairD y), .un, .un], ms⟩) (by simp [fnM, bnd, Mp.ret, lift, stk, seqS, retS, asgS, dropS, ifS, setv, getv, peekv, op1, op2, ap1, ap2, asB, chain2, testM, truM, truO, andV, orV, notV, ifV, andB, orB, notB, argN, argC, mkTup, mkLst, frzd, callM, onMs, subsO, lenO, absO, isiO, D.tg, isTy, tgtT, tgtC, tgtN, par2, par3, forS, seqI, srcD, catO, addO, subO, repO, mulO, fdivO, modO, negO, ltO, leO, gtO, geO, cmpI, gcdO, maxO, minO, intO, tupleO, listO]) (by omega) (by simp) (by
          intro q hq2
          have e := fun s => e_law_turn x y q s hxR hyR (hq q hq2)
          refine ⟨[P, .val (.lst (qs.map pairD)), .val .non, .un, .val (.tup (R.map pairD)), Du, Tu, .val (pairD x), .val (pairD y), .val (pairD q), .un], ?_, by simp [wipeE]⟩
          generalize R.map pairD = A at *
          generalize qs.map pairD = B at *
          generalize pairD x = X at *
          generalize pairD y = Y at *
          generalize pairD q = Z at *
          simp [lcT, wipeE, yesM, ce1_law_hull_right, e, fnM, bnd, Mp.ret, lift, stk, seqS, retS, asgS, dropS, ifS, setv, getv, peekv, op1, op2, ap1, ap2, asB, chain2, testM, truM, truO, andV, orV, notV, ifV, andB, orB, notB, argN, argC, mkTup, mkLst, frzd, callM, onMs, subsO, lenO, absO, isiO, D.tg, isTy, tgtT, tgtC, tgtN, par2, par3, forS, seqI, srcD, catO, addO, subO, repO, mulO, fdivO, modO, negO, ltO, leO, gtO, geO, cmpI, gcdO, maxO, minO, intO, tupleO, listO])
        rw [filterMap_some_map] at c
        have c1 : c1_law_hull_right ⟨[P, .val (.lst (qs.map pairD)), .val .non, .un, .val (.tup (R.map pairD)), Du, Tu, .val (pairD x), .val (pairD y), .un, .un], ms⟩ = .ok (qs.map fun q => D.int (turn x y q)) ⟨[P, .val (.lst (qs.map pairD)), .val .non, .un, .val (.tup (R.map pairD)), Du, Tu, .val (pairD x), .val (pairD y), .un, .un], ms⟩ := by
          unfold c1_law_hull_right
          rw [c]
          simp [restE, wipeE, keepVal]
        obtain ⟨k, mn, k0⟩ : ∃ k : Int, (∀ s, minLO (.lst (qs.map fun q => D.int (turn x y q))) s = some (.int k)) ∧ 0 ≤ k := by
          obtain ⟨q0, q1, rfl⟩ : ∃ q0 q1, qs = q0 :: q1 := by
            cases qs with
            | nil => exact absurd rfl ne
            | cons a b => exact ⟨a, b, rfl⟩
          have iD : ∀ l : List Pt, intsD (l.map fun q => D.int (turn x y q)) = some (l.map fun q => turn x y q) := by
            intro l
            induction l with
            | nil => rfl
            | cons a l ih =>
              rw [List.map_cons]
              unfold intsD
              rw [ih]
              rfl
          refine ⟨minI (turn x y q0) (q1.map fun q => turn x y q), fun s => ?_, ?_⟩
          · show (match intsD ((q0 :: q1).map fun q => D.int (turn x y q)) with | some (n :: ns) => some (D.int (minI n ns)) | _ => none) = _
            rw [iD]
            rfl
          · obtain ⟨m1, m2⟩ := minI_spec (turn x y q0) (q1.map fun q => turn x y q)
            rw [show turn x y q0 :: (q1.map fun q => turn x y q) = (q0 :: q1).map (fun q => turn x y q) from rfl] at m1
            obtain ⟨q, hq3, e⟩ := List.mem_map.mp m1
            rw [← e]
            exact hq0 q hq3
        have k1 : ¬ k < 0 := by omega
        generalize (qs.map fun q => D.int (turn x y q)) = ZS at *
        generalize R.map pairD = A at *
        generalize qs.map pairD = B at *
        generalize pairD x = X at *
        generalize pairD y = Y at *
        simp [lb1_law_hull_right, c1, mn, k1, fnM, bnd, Mp.ret, lift, stk, seqS, retS, asgS, dropS, ifS, setv, getv, peekv, op1, op2, ap1, ap2, asB, chain2, testM, truM, truO, andV, orV, notV, ifV, andB, orB, notB, argN, argC, mkTup, mkLst, frzd, callM, onMs, subsO, lenO, absO, isiO, D.tg, isTy, tgtT, tgtC, tgtN, par2, par3, forS, seqI, srcD, catO, addO, subO, repO, mulO, fdivO, modO, negO, ltO, leO, gtO, geO, cmpI, gcdO, maxO, minO, intO, tupleO, listO])
  refine ⟨x7, x8, ?_⟩
  generalize (R.map pairD).drop 1 = A1 at *
  generalize (R.map pairD).take 1 = A2 at *
  generalize R.map pairD = A at *
  generalize qs.map pairD = B at *
  simp [l1_law_hull_right, overA, zipO, sliceM, slO, partS, partN, d1, t1, b1, e, fnM, bnd, Mp.ret, lift, stk, seqS, retS, asgS, dropS, ifS, setv, getv, peekv, op1, op2, ap1, ap2, asB, chain2, testM, truM, truO, andV, orV, notV, ifV, andB, orB, notB, argN, argC, mkTup, mkLst, frzd, callM, onMs, subsO, lenO, absO, isiO, D.tg, isTy, tgtT, tgtC, tgtN, par2, par3, forS, seqI, srcD, catO, addO, subO, repO, mulO, fdivO, modO, negO, ltO, leO, gtO, geO, cmpI, gcdO, maxO, minO, intO, tupleO, listO]
end
end K12

set_option linter.all false
set_option maxRecDepth 100000
namespace K12
open Mp Hul
theorem Rp_pair {p : Pt} (h : Sp p) : Rp 2 1 (pairD p) := by
  have := Rp.tup (w := 0) (e := 0) (xs := [.int p.1, .int p.2]) (by
    intro x hx
    have hh := h.sm
    rcases (by simpa using hx : x = .int p.1 ∨ x = .int p.2) with rfl | rfl
    · exact Rp.int (Nat.lt_of_lt_of_le hh.1 (Nat.pow_le_pow_right (by decide) (by decide)))
    · exact Rp.int (Nat.lt_of_lt_of_le hh.2 (Nat.pow_le_pow_right (by decide) (by decide))))
  exact this
theorem Rp_pairs {qs : List Pt} (h : ∀ p ∈ qs, Sp p) (hl : qs.length ≤ 100) : ∃ t, ∀ s, reprO (.tup (qs.map pairD)) s = some (.str t) := by
  have := Rp.tup (w := 2) (e := 1) (xs := qs.map pairD) (by
    intro x hx
    obtain ⟨p, hp, rfl⟩ := List.mem_map.mp hx
    exact Rp_pair (h p hp))
  rw [List.length_map] at this
  exact this.repr (by omega) (by decide)
theorem filterMap_if {qs : List Pt} {c : Pt → Bool} : qs.filterMap (fun p => if c p = true then some (pairD p) else none) = (qs.filter c).map pairD := by
  induction qs with
  | nil => rfl
  | cons x Q ih =>
    rw [List.filter_cons]
    by_cases h : c x = true
    · rw [List.filterMap_cons_some (by rw [if_pos h]), if_pos h, ih, List.map_cons]
    · rw [List.filterMap_cons_none (by rw [if_neg h]), if_neg h, ih]
section
variable (P : Sl) (ms : List (List D)) {qs : List Pt}
theorem e_due (h : ∀ p ∈ qs, Sp p) (hl : qs.length ≤ 100) (RG : Sl) : c3_law_hull_right ⟨[P, .val (.lst (qs.map pairD)), .val .non, .un, RG, .un, .un, .un, .un, .un, .un], ms⟩ = .ok ((qs.filter fun p => !heldB qs p).map pairD) ⟨[P, .val (.lst (qs.map pairD)), .val .non, .un, RG, .un, .un, .un, .un, .un, .un], ms⟩ := by
  have c := lcM_map pairD qs (vs := [9]) (src := seqI (getv 1)) (t := setv 9) (c := ct1_law_hull_right) (f := ce3_law_hull_right) (fun p => if (!heldB qs p) = true then some (pairD p) else none) (s := ⟨[P, .val (.lst (qs.map pairD)), .val .non, .un, RG, .un, .un, .un, .un, .un, .un], ms⟩) (by simp [fnM, bnd, Mp.ret, lift, stk, seqS, retS, asgS, dropS, ifS, setv, getv, peekv, op1, op2, ap1, ap2, asB, chain2, testM, truM, truO, andV, orV, notV, ifV, andB, orB, notB, argN, argC, mkTup, mkLst, frzd, callM, onMs, subsO, lenO, absO, isiO, D.tg, isTy, tgtT, tgtC, tgtN, par2, par3, forS, seqI, srcD, catO, addO, subO, repO, mulO, fdivO, modO, negO, ltO, leO, gtO, geO, cmpI, gcdO, maxO, minO, intO, tupleO, listO]) (by omega) (by simp) (by
    intro q hq
    have e := fun s => e_is_held qs q s h (h q hq) hl
    refine ⟨[P, .val (.lst (qs.map pairD)), .val .non, .un, RG, .un, .un, .un, .un, .val (pairD q), .un], ?_, by simp [wipeE]⟩
    generalize heldB qs q = b at *
    generalize qs.map pairD = B at *
    generalize pairD q = Z at *
    cases b <;> simp [lcT, wipeE, ct1_law_hull_right, ce3_law_hull_right, e, fnM, bnd, Mp.ret, lift, stk, seqS, retS, asgS, dropS, ifS, setv, getv, peekv, op1, op2, ap1, ap2, asB, chain2, testM, truM, truO, andV, orV, notV, ifV, andB, orB, notB, argN, argC, mkTup, mkLst, frzd, callM, onMs, subsO, lenO, absO, isiO, D.tg, isTy, tgtT, tgtC, tgtN, par2, par3, forS, seqI, srcD, catO, addO, subO, repO, mulO, fdivO, modO, negO, ltO, leO, gtO, geO, cmpI, gcdO, maxO, minO, intO, tupleO, listO])
  rw [filterMap_if] at c
  unfold c3_law_hull_right
  rw [c]
  simp [restE, wipeE, keepVal]
theorem e_off {a b : Pt} {r : List Pt} (h : ∀ p ∈ a :: b :: r, Sp p) (hl : (a :: b :: r).length ≤ 100) : c4_law_hull_right ⟨[P, .val (.lst ((a :: b :: r).map pairD)), .val .non, .un, .un, .un, .un, .un, .un, .un, .un], ms⟩ = .ok (((a :: b :: r).filter fun p => !decide (turn a b p = 0)).map pairD) ⟨[P, .val (.lst ((a :: b :: r).map pairD)), .val .non, .un, .un, .un, .un, .un, .un, .un, .un], ms⟩ := by
  have c := lcM_map pairD (a :: b :: r) (vs := [9]) (src := seqI (getv 1)) (t := setv 9) (c := ct2_law_hull_right) (f := ce4_law_hull_right) (fun p => if (!decide (turn a b p = 0)) = true then some (pairD p) else none) (s := ⟨[P, .val (.lst ((a :: b :: r).map pairD)), .val .non, .un, .un, .un, .un, .un, .un, .un, .un], ms⟩) (by simp [fnM, bnd, Mp.ret, lift, stk, seqS, retS, asgS, dropS, ifS, setv, getv, peekv, op1, op2, ap1, ap2, asB, chain2, testM, truM, truO, andV, orV, notV, ifV, andB, orB, notB, argN, argC, mkTup, mkLst, frzd, callM, onMs, subsO, lenO, absO, isiO, D.tg, isTy, tgtT, tgtC, tgtN, par2, par3, forS, seqI, srcD, catO, addO, subO, repO, mulO, fdivO, modO, negO, ltO, leO, gtO, geO, cmpI, gcdO, maxO, minO, intO, tupleO, listO]) (by omega) (by simp) (by
    intro q hq
    have e := fun s => e_law_turn a b q s (h a (by simp)).sm (h b (by simp)).sm (h q hq).sm
    refine ⟨[P, .val (.lst ((a :: b :: r).map pairD)), .val .non, .un, .un, .un, .un, .un, .un, .val (pairD q), .un], ?_, by simp [wipeE]⟩
    simp only [List.map_cons]
    generalize turn a b q = t at *
    generalize r.map pairD = B at *
    generalize pairD q = Z at *
    generalize pairD a = X at *
    generalize pairD b = Y at *
    by_cases ht : t = 0
    · simp [lcT, wipeE, ct2_law_hull_right, ce4_law_hull_right, at0, at1, e, ne_int, ht, fnM, bnd, Mp.ret, lift, stk, seqS, retS, asgS, dropS, ifS, setv, getv, peekv, op1, op2, ap1, ap2, asB, chain2, testM, truM, truO, andV, orV, notV, ifV, andB, orB, notB, argN, argC, mkTup, mkLst, frzd, callM, onMs, subsO, lenO, absO, isiO, D.tg, isTy, tgtT, tgtC, tgtN, par2, par3, forS, seqI, srcD, catO, addO, subO, repO, mulO, fdivO, modO, negO, ltO, leO, gtO, geO, cmpI, gcdO, maxO, minO, intO, tupleO, listO]
    · simp [lcT, wipeE, ct2_law_hull_right, ce4_law_hull_right, at0, at1, e, ne_int, ht, fnM, bnd, Mp.ret, lift, stk, seqS, retS, asgS, dropS, ifS, setv, getv, peekv, op1, op2, ap1, ap2, asB, chain2, testM, truM, truO, andV, orV, notV, ifV, andB, orB, notB, argN, argC, mkTup, mkLst, frzd, callM, onMs, subsO, lenO, absO, isiO, D.tg, isTy, tgtT, tgtC, tgtN, par2, par3, forS, seqI, srcD, catO, addO, subO, repO, mulO, fdivO, modO, negO, ltO, leO, gtO, geO, cmpI, gcdO, maxO, minO, intO, tupleO, listO])
  rw [filterMap_if] at c
  unfold c4_law_hull_right
  rw [c]
  simp [restE, wipeE, keepVal]
end
theorem isub00 : isub 0 0 = some true := by decide
theorem k_hull_right (n : Nat) (hn : n < 2) (s : S) (ht : Two s.ms) : ∃ ms' : List (List D), f_law_hull_right [.ref n] s = .ok (.bl true) ⟨s.env, ms'⟩ ∧ Two ms' := by
  obtain ⟨k, ms1, e1, k0, k1, t1⟩ := k_draw n hn 8 ⟨[], s.ms⟩ ht (by decide) (by decide)
  obtain ⟨top, ms2, e2, hm, t2⟩ := k_pick n hn [.int 2, .int 5, .int 999] ⟨[], ms1⟩ t1 (by simp) (by simp)
  obtain ⟨m, rfl, hm0, hm1⟩ : ∃ m : Int, top = .int m ∧ 2 ≤ m ∧ m ≤ 999 := by
    simp only [List.mem_cons, List.not_mem_nil, or_false] at hm
    rcases hm with rfl | rfl | rfl
    · exact ⟨2, rfl, by decide, by decide⟩
    · exact ⟨5, rfl, by decide, by decide⟩
    · exact ⟨999, rfl, by decide, by decide⟩
  obtain ⟨qs, ms3, e3, nd, sp, ql, t3⟩ := k_spots n hn (3 + k) m ⟨[], ms2⟩ t2 (by omega) (by omega) hm0 hm1
  obtain ⟨tx, er⟩ := Rp_pairs sp (by omega)
  have hlen : (qs.map pairD).length = qs.length := List.length_map ..
  have bad : spotsB qs = false → ∀ s, f_hull [.tup (qs.map pairD)] s = .err (.ref 0) [("value", .tup (qs.map pairD))] s := fun hb s => by
    refine e_hull_bad _ s fun s => ?_
    rw [e_are_spots qs s sp (by omega), hb]
  refine ⟨ms3, ?_, t3⟩
  have eqs := fun s => eq_str tx s
  by_cases c3 : qs.length < 3
  · have hb := bad (by unfold spotsB; rw [decide_eq_false (by omega)]; rfl)
    have c3' : (qs.length : Int) < 3 := by omega
    generalize qs.map pairD = Q at *
    generalize qs.length = N at *
    simp [f_law_hull_right, m_law_hull_right, e1, e2, e3, hlen, c3, c3', tb1_law_hull_right, th1_law_hull_right, hb, tryS, handM, suiteM, isub00, excF, noX, tupleO, er, eqs, fnM, bnd, Mp.ret, lift, stk, seqS, retS, asgS, dropS, ifS, setv, getv, peekv, op1, op2, ap1, ap2, asB, chain2, testM, truM, truO, andV, orV, notV, ifV, andB, orB, notB, argN, argC, mkTup, mkLst, frzd, callM, onMs, subsO, lenO, absO, isiO, D.tg, isTy, tgtT, tgtC, tgtN, par2, par3, forS, seqI, srcD, catO, addO, subO, repO, mulO, fdivO, modO, negO, ltO, leO, gtO, geO, cmpI, gcdO, maxO, minO, intO, tupleO, listO]
  · obtain ⟨a, b, r, rfl⟩ : ∃ a b r, qs = a :: b :: r := by
      match qs, c3 with
      | [], h => exact absurd (by simp) h
      | [x], h => exact absurd (by simp) h
      | a :: b :: r, _ => exact ⟨a, b, r, rfl⟩
    have c3' : ¬ ((a :: b :: r).length : Int) < 3 := by omega
    have c4 := e_off (.val (.ref n)) ms3 sp (by omega)
    have q4 := fun s => eq_lst ((a :: b :: r).filter fun p => !decide (turn a b p = 0)) [] s
    simp only [List.map_nil] at q4
    by_cases cc : colB (a :: b :: r) = true
    · have hb := bad (by unfold spotsB; rw [cc]; simp)
      have f0 : (a :: b :: r).filter (fun p => !decide (turn a b p = 0)) = [] := by
        rw [List.filter_eq_nil_iff]
        intro p hp
        have : (a :: b :: r).all (fun p => decide (turn a b p = 0)) = true := cc
        have := List.all_eq_true.mp this p hp
        simp at this
        simp [this]
      rw [f0] at c4
      simp only [List.map_nil] at c4
      have q5 : ∀ s : S, eqO (.lst []) (.lst []) s = some (.bl true) := fun s => by
        have := eq_lst [] [] s
        simpa using this
      generalize (a :: b :: r).map pairD = Q at *
      generalize (a :: b :: r).length = N at *
      simp [f_law_hull_right, m_law_hull_right, e1, e2, e3, hlen, c3, c3', c4, q5, tb1_law_hull_right, th1_law_hull_right, hb, tryS, handM, suiteM, isub00, excF, noX, tupleO, er, eqs, fnM, bnd, Mp.ret, lift, stk, seqS, retS, asgS, dropS, ifS, setv, getv, peekv, op1, op2, ap1, ap2, asB, chain2, testM, truM, truO, andV, orV, notV, ifV, andB, orB, notB, argN, argC, mkTup, mkLst, frzd, callM, onMs, subsO, lenO, absO, isiO, D.tg, isTy, tgtT, tgtC, tgtN, par2, par3, forS, seqI, srcD, catO, addO, subO, repO, mulO, fdivO, modO, negO, ltO, leO, gtO, geO, cmpI, gcdO, maxO, minO, intO, tupleO, listO]
    · have cf : colB (a :: b :: r) = false := by rw [← Bool.not_eq_true]; exact cc
      have ok := hull_all nd cf
      have sB : spotsB (a :: b :: r) = true := by
        unfold spotsB
        rw [cf, decide_eq_true nd, decide_eq_true (by omega : 3 ≤ (a :: b :: r).length), decide_eq_true (by omega : (a :: b :: r).length ≤ 24)]
        rfl
      have eh := fun s => e_hull _ s sp (by omega) sB
      have ehr := fun s => e_hull (a :: b :: r).reverse s (fun p hp => sp p (List.mem_reverse.mp hp)) (by rw [List.length_reverse]; omega) (spotsB_rev sB)
      rw [ring_rev] at ehr
      rw [List.map_reverse] at ehr
      have fne : ¬ (a :: b :: r).filter (fun p => !decide (turn a b p = 0)) = [] := by
        intro z
        obtain ⟨a', b', r', p, ee, hp, hn0⟩ := colB_false cf
        cases ee
        have := List.filter_eq_nil_iff.mp z p hp
        simp at this
        exact hn0 this
      have q5 := fun s => q4 s
      rw [decide_eq_false fne] at q5
      have due := e_due (.val (.ref n)) ms3 sp (by omega) (.val (.tup ((ringS (a :: b :: r)).map pairD)))
      have rs := ring_sorted nd ok
      obtain ⟨m0, R', S', er1, er2⟩ := ring_first ok
      have spR : ∀ p ∈ ringS (a :: b :: r), Sm p := fun p hp => (sp p (ok.su p hp)).sm
      have lR : (ringS (a :: b :: r)).length ≤ 1000 := by
        have h1 := (isortP_perm (ringS (a :: b :: r))).length_eq
        have h2 := (isortP_perm ((a :: b :: r).filter fun p => !heldB (a :: b :: r) p)).length_eq
        have h3 := List.length_filter_le (fun p => !heldB (a :: b :: r) p) (a :: b :: r)
        rw [rs] at h1
        exact Nat.le_trans (Nat.le_of_eq (h1.symm.trans h2)) (Nat.le_trans h3 (by omega))
      have tpos := turns_pos ok
      have tl : (turnsL (ringS (a :: b :: r))).length = (ringS (a :: b :: r)).length := by unfold turnsL; rw [List.length_map, List.length_range]
      have l3 := ok.l3
      have he6 := ok.e6
      have dl : ((a :: b :: r).filter fun p => !heldB (a :: b :: r) p).length ≤ 100000 := by
        have := List.length_filter_le (fun p => !heldB (a :: b :: r) p) (a :: b :: r)
        omega
      have so1 : ∀ s, sortO (.lst (((a :: b :: r).filter fun p => !heldB (a :: b :: r) p).map pairD)) s = some (.lst ((isortP (ringS (a :: b :: r))).map pairD)) := fun s => by
        simp only [sortO, List.length_map]
        rw [if_pos dl, pairsOf_map, rs]
        rfl
      have so2 : ∀ s, sortO (.tup ((ringS (a :: b :: r)).map pairD)) s = some (.lst ((isortP (ringS (a :: b :: r))).map pairD)) := fun s => by
        simp only [sortO, List.length_map]
        rw [if_pos (by omega), pairsOf_map]
        rfl
      have n1 := fun s => ne_lst (isortP (ringS (a :: b :: r))) (isortP (ringS (a :: b :: r))) s
      rw [decide_eq_true rfl] at n1
      have n2 := fun s => ne_tup (ringS (a :: b :: r)) (ringS (a :: b :: r)) s
      rw [decide_eq_true rfl] at n2
      have n3 := fun s => ne_pair m0 m0 s
      rw [decide_eq_true rfl] at n3
      have n4 := fun s => eq_tup (ringS (a :: b :: r)) (ringS (a :: b :: r)) s
      rw [decide_eq_true rfl] at n4
      have tu := e_turns (.val (.ref n)) (.val (.lst ((isortP (ringS (a :: b :: r))).map pairD))) (.lst ((a :: b :: r).map pairD)) ms3 spR lR
      obtain ⟨k, mn, kp⟩ : ∃ k : Int, (∀ s, minLO (.lst ((turnsL (ringS (a :: b :: r))).map .int)) s = some (.int k)) ∧ 0 < k := by
        cases z : turnsL (ringS (a :: b :: r)) with
        | nil => rw [z] at tl; simp at tl; omega
        | cons t ts =>
          rw [z] at tpos
          have iD : ∀ l : List Int, intsD (l.map D.int) = some l := by
            intro l
            induction l with
            | nil => rfl
            | cons a l ih =>
              rw [List.map_cons]
              unfold intsD
              rw [ih]
              rfl
          refine ⟨minI t ts, fun s => ?_, tpos _ (minI_spec t ts).1⟩
          show (match intsD ((t :: ts).map D.int) with | some (n :: ns) => some (D.int (minI n ns)) | _ => none) = _
          rw [iD]
      obtain ⟨x7, x8, lp⟩ := e_edges (.val (.ref n)) (.val (.lst ((isortP (ringS (a :: b :: r))).map pairD))) (.val (.lst ((turnsL (ringS (a :: b :: r))).map .int))) ms3 spR (fun p hp => (sp p hp).sm) lR (by omega) (by simp) he6
      have at1 : L2.atI ((ringS (a :: b :: r)).map pairD) 0 = some (pairD m0) := by rw [er1]; exact at0
      have at2 : L2.atI ((isortP (ringS (a :: b :: r))).map pairD) 0 = some (pairD m0) := by rw [er2]; exact at0
      have kp' : ¬ k ≤ 0 := by omega
      generalize (turnsL (ringS (a :: b :: r))).map D.int = TL at *
      generalize (isortP (ringS (a :: b :: r))).map pairD = DU at *
      generalize (ringS (a :: b :: r)).map pairD = RG at *
      generalize ((a :: b :: r).filter fun p => !heldB (a :: b :: r) p).map pairD = HD at *
      generalize ((a :: b :: r).filter fun p => !decide (turn a b p = 0)).map pairD = CL at *
      generalize (a :: b :: r).map pairD = Q at *
      generalize (a :: b :: r).length = N at *
      generalize pairD m0 = M0 at *
      have hr : revO (.lst Q) = some (.lst Q.reverse) := rfl
      generalize Q.reverse = QR at *
      simp [f_law_hull_right, m_law_hull_right, e1, e2, e3, hlen, c3, c3', c4, q5, eh, ehr, due, so1, so2, n1, n2, n3, n4, tu, mn, kp, kp', lp, at1, at2, tupleO, callK, reord, revA, hr, fnM, bnd, Mp.ret, lift, stk, seqS, retS, asgS, dropS, ifS, setv, getv, peekv, op1, op2, ap1, ap2, asB, chain2, testM, truM, truO, andV, orV, notV, ifV, andB, orB, notB, argN, argC, mkTup, mkLst, frzd, callM, onMs, subsO, lenO, absO, isiO, D.tg, isTy, tgtT, tgtC, tgtN, par2, par3, forS, seqI, srcD, catO, addO, subO, repO, mulO, fdivO, modO, negO, ltO, leO, gtO, geO, cmpI, gcdO, maxO, minO, intO, tupleO, listO]
end K12

set_option linter.all false
set_option maxRecDepth 100000
namespace K12
open Mp Hul
open PySem (PyData)
/-- a value that repr shows, its text sound -/
def Shw (x : D) : Prop := ∃ t, (∀ s, reprO x s = some (.str t)) ∧ PyData.strOk t = true
theorem shw {x : D} {y : PyData} (h : x.py = some y) (c : (y.showable && decide (y.depth ≤ 60) && decide (y.shown.length ≤ 10000000) && !y.hasDict && PyData.strOk y.shown) = true) : Shw x := by
  rw [Bool.and_eq_true] at c
  refine ⟨y.shown, fun s => ?_, c.2⟩
  unfold reprO
  rw [h]
  simp only
  rw [if_pos c.1]
def bads : List D := [.non, .tup [.int 1], .lst [.int 1, .int 2], .tup [.int 1, .int 2, .int 3], .tup [.int 1000, .int 0], .tup [.int 0, .int (-1000)], .tup [.bl true, .int 0], .tup [.int 0, .tup [.int 1, .int 1]], .str "00"]
theorem bads_rp : ∀ b ∈ bads, Shw b := by
  intro b hb
  unfold bads at hb
  simp only [List.mem_cons, List.not_mem_nil, or_false] at hb
  rcases hb with rfl | rfl | rfl | rfl | rfl | rfl | rfl | rfl | rfl <;> exact shw rfl (by decide +kernel)
theorem bads_spot : ∀ b ∈ bads, ∀ s, f_is_spot [b] s = .ok (.bl false) s := by
  intro b hb s
  unfold bads at hb
  simp only [List.mem_cons, List.not_mem_nil, or_false] at hb
  rcases hb with rfl | rfl | rfl | rfl | rfl | rfl | rfl | rfl | rfl <;>
  simp [f_is_spot, m_is_spot, c1_is_spot, ce1_is_spot, f_is_row, m_is_row, f_is_within, m_is_within, f_is_integer, m_is_integer, eq_int, lcM, lcL, lcT, yesM, wipeE, restE, keepVal, allO, bools, fnM, bnd, Mp.ret, lift, stk, seqS, retS, asgS, dropS, ifS, setv, getv, peekv, op1, op2, ap1, ap2, asB, chain2, testM, truM, truO, andV, orV, notV, ifV, andB, orB, notB, argN, argC, mkTup, mkLst, frzd, callM, onMs, subsO, lenO, absO, isiO, D.tg, isTy, tgtT, tgtC, tgtN, par2, par3, forS, seqI, srcD, catO, addO, subO, repO, mulO, fdivO, modO, negO, ltO, leO, gtO, geO, cmpI, gcdO, maxO, minO, intO, tupleO, listO]
theorem e_want_bad (b : D) (h : ∀ s, f_is_spot [b] s = .ok (.bl false) s) (s : S) : f_want_spot [b] s = .err (.ref 1) [("value", b)] s := by
  simp [f_want_spot, m_want_spot, h, raise1, fnM, bnd, Mp.ret, lift, stk, seqS, retS, asgS, dropS, ifS, setv, getv, peekv, op1, op2, ap1, ap2, asB, chain2, testM, truM, truO, andV, orV, notV, ifV, andB, orB, notB, argN, argC, mkTup, mkLst, frzd, callM, onMs, subsO, lenO, absO, isiO, D.tg, isTy, tgtT, tgtC, tgtN, par2, par3, forS, seqI, srcD, catO, addO, subO, repO, mulO, fdivO, modO, negO, ltO, leO, gtO, geO, cmpI, gcdO, maxO, minO, intO, tupleO, listO]
theorem are_bad (b : D) (h : ∀ s, f_is_spot [b] s = .ok (.bl false) s) (s : S) : f_are_spots [.tup [pairD (0, 0), pairD (1, 0), b]] s = .ok (.bl false) s := by
  have h0 := fun s => e_is_spot (0, 0) s (by unfold Sp; decide)
  have h1 := fun s => e_is_spot (1, 0) s (by unfold Sp; decide)
  generalize pairD (0, 0) = A at *
  generalize pairD (1, 0) = B at *
  simp [f_are_spots, m_are_spots, c2_are_spots, ce2_are_spots, h, h0, h1, lcM, lcL, lcT, yesM, wipeE, restE, keepVal, allO, bools, fnM, bnd, Mp.ret, lift, stk, seqS, retS, asgS, dropS, ifS, setv, getv, peekv, op1, op2, ap1, ap2, asB, chain2, testM, truM, truO, andV, orV, notV, ifV, andB, orB, notB, argN, argC, mkTup, mkLst, frzd, callM, onMs, subsO, lenO, absO, isiO, D.tg, isTy, tgtT, tgtC, tgtN, par2, par3, forS, seqI, srcD, catO, addO, subO, repO, mulO, fdivO, modO, negO, ltO, leO, gtO, geO, cmpI, gcdO, maxO, minO, intO, tupleO, listO]
end K12

set_option linter.all false
set_option maxRecDepth 100000
namespace K12
open Mp Hul
open PySem (PyData)
theorem isub1 : isub 1 1 = some true ∧ isub 0 1 = some false ∧ isub 0 0 = some true ∧ isub 1 2 = some true ∧ isub 0 2 = some true := by decide
theorem heard1 (acts : Acts) (L : PySem.Addr) (n : Nat) (s : S) (b : D) (t : PySem.Str) (he : acts L n ⟨[], s.ms⟩ = .err (.ref 1) [("value", b)] ⟨[], s.ms⟩) (hr : ∀ s, reprO b s = some (.str t)) : f_law_heard acts [.clo L n] s = .ok (.lst [.str "spot", .str t, .bl true]) s := by
  obtain ⟨i1, i2, i3, i4, i5⟩ := isub1
  simp [f_law_heard, m_law_heard, tb1_law_heard, th2_law_heard, callS, he, tryS, handM, suiteM, i1, i4, excF, isE, noX, hr, fnM, bnd, Mp.ret, lift, stk, seqS, retS, asgS, dropS, ifS, setv, getv, peekv, op1, op2, ap1, ap2, asB, chain2, testM, truM, truO, andV, orV, notV, ifV, andB, orB, notB, argN, argC, mkTup, mkLst, frzd, callM, onMs, subsO, lenO, absO, isiO, D.tg, isTy, tgtT, tgtC, tgtN, par2, par3, forS, seqI, srcD, catO, addO, subO, repO, mulO, fdivO, modO, negO, ltO, leO, gtO, geO, cmpI, gcdO, maxO, minO, intO, tupleO, listO]
theorem heard0 (acts : Acts) (L : PySem.Addr) (n : Nat) (s : S) (b : D) (t : PySem.Str) (he : acts L n ⟨[], s.ms⟩ = .err (.ref 0) [("value", b)] ⟨[], s.ms⟩) (hr : ∀ s, reprO b s = some (.str t)) : f_law_heard acts [.clo L n] s = .ok (.lst [.str "places", .str t, .bl true]) s := by
  obtain ⟨i1, i2, i3, i4, i5⟩ := isub1
  simp [f_law_heard, m_law_heard, tb1_law_heard, th1_law_heard, callS, he, tryS, handM, suiteM, i2, i3, i5, excF, isE, noX, hr, fnM, bnd, Mp.ret, lift, stk, seqS, retS, asgS, dropS, ifS, setv, getv, peekv, op1, op2, ap1, ap2, asB, chain2, testM, truM, truO, andV, orV, notV, ifV, andB, orB, notB, argN, argC, mkTup, mkLst, frzd, callM, onMs, subsO, lenO, absO, isiO, D.tg, isTy, tgtT, tgtC, tgtN, par2, par3, forS, seqI, srcD, catO, addO, subO, repO, mulO, fdivO, modO, negO, ltO, leO, gtO, geO, cmpI, gcdO, maxO, minO, intO, tupleO, listO]
theorem eqD_heard (x y : PySem.Str) (hx : PyData.strOk x = true) (hy : PyData.strOk y = true) : eqD (.lst [.str x, .str y, .bl true]) (.lst [.str x, .str y, .bl true]) = some true := by
  have hp : (D.lst [.str x, .str y, .bl true]).py = some (.list [.str x, .str y, .bool true]) := rfl
  rw [eqD_py hp hp (fun t h => by cases h) (by simp [PySem.SeqAt.shaped, PyData.canLay0, PyData.canLayAll0, PyData.depth, PyData.depthAll, hx, hy]) (by simp [PySem.SeqAt.shaped, PyData.canLay0, PyData.canLayAll0, PyData.depth, PyData.depthAll, hx, hy])]
  simp [PyData.eqv, PyData.eqvAll]
theorem ne_heard (x y : PySem.Str) (s : S) (hx : PyData.strOk x = true) (hy : PyData.strOk y = true) : neO (.lst [.str x, .str y, .bl true]) (.lst [.str x, .str y, .bl true]) s = some (.bl false) := by unfold neO; rw [eqD_heard x y hx hy]; rfl
theorem eq_heard (x y : PySem.Str) (s : S) (hx : PyData.strOk x = true) (hy : PyData.strOk y = true) : eqO (.lst [.str x, .str y, .bl true]) (.lst [.str x, .str y, .bl true]) s = some (.bl true) := by unfold eqO; rw [eqD_heard x y hx hy]; rfl
abbrev goodP : Pt := (999, -999)
theorem good_sp : Sp goodP := by unfold Sp; decide
section
variable (b : D) (h : ∀ s, f_want_spot [b] s = .err (.ref 1) [("value", b)] s)
include h
theorem tb0 (x y : D) (s : S) : f_turn [b, x, y] s = .err (.ref 1) [("value", b)] s := by
  simp [f_turn, m_turn, h, fnM, bnd, Mp.ret, lift, stk, seqS, retS, asgS, dropS, ifS, setv, getv, peekv, op1, op2, ap1, ap2, asB, chain2, testM, truM, truO, andV, orV, notV, ifV, andB, orB, notB, argN, argC, mkTup, mkLst, frzd, callM, onMs, subsO, lenO, absO, isiO, D.tg, isTy, tgtT, tgtC, tgtN, par2, par3, forS, seqI, srcD, catO, addO, subO, repO, mulO, fdivO, modO, negO, ltO, leO, gtO, geO, cmpI, gcdO, maxO, minO, intO, tupleO, listO]
theorem tb1' (y : D) (s : S) : f_turn [pairD goodP, b, y] s = .err (.ref 1) [("value", b)] s := by
  have g := fun s => e_want_spot goodP s good_sp
  generalize pairD goodP = G at *
  simp [f_turn, m_turn, h, g, fnM, bnd, Mp.ret, lift, stk, seqS, retS, asgS, dropS, ifS, setv, getv, peekv, op1, op2, ap1, ap2, asB, chain2, testM, truM, truO, andV, orV, notV, ifV, andB, orB, notB, argN, argC, mkTup, mkLst, frzd, callM, onMs, subsO, lenO, absO, isiO, D.tg, isTy, tgtT, tgtC, tgtN, par2, par3, forS, seqI, srcD, catO, addO, subO, repO, mulO, fdivO, modO, negO, ltO, leO, gtO, geO, cmpI, gcdO, maxO, minO, intO, tupleO, listO]
theorem tb2 (s : S) : f_turn [pairD goodP, pairD goodP, b] s = .err (.ref 1) [("value", b)] s := by
  have g := fun s => e_want_spot goodP s good_sp
  generalize pairD goodP = G at *
  simp [f_turn, m_turn, h, g, fnM, bnd, Mp.ret, lift, stk, seqS, retS, asgS, dropS, ifS, setv, getv, peekv, op1, op2, ap1, ap2, asB, chain2, testM, truM, truO, andV, orV, notV, ifV, andB, orB, notB, argN, argC, mkTup, mkLst, frzd, callM, onMs, subsO, lenO, absO, isiO, D.tg, isTy, tgtT, tgtC, tgtN, par2, par3, forS, seqI, srcD, catO, addO, subO, repO, mulO, fdivO, modO, negO, ltO, leO, gtO, geO, cmpI, gcdO, maxO, minO, intO, tupleO, listO]
theorem hb0 (x y z : D) (s : S) : f_have_common [b, x, y, z] s = .err (.ref 1) [("value", b)] s := by
  simp [f_have_common, m_have_common, l1_have_common, lb1_have_common, forL, h, fnM, bnd, Mp.ret, lift, stk, seqS, retS, asgS, dropS, ifS, setv, getv, peekv, op1, op2, ap1, ap2, asB, chain2, testM, truM, truO, andV, orV, notV, ifV, andB, orB, notB, argN, argC, mkTup, mkLst, frzd, callM, onMs, subsO, lenO, absO, isiO, D.tg, isTy, tgtT, tgtC, tgtN, par2, par3, forS, seqI, srcD, catO, addO, subO, repO, mulO, fdivO, modO, negO, ltO, leO, gtO, geO, cmpI, gcdO, maxO, minO, intO, tupleO, listO]
theorem hb2 (z : D) (s : S) : f_have_common [pairD goodP, pairD goodP, b, z] s = .err (.ref 1) [("value", b)] s := by
  have g := fun s => e_want_spot goodP s good_sp
  generalize pairD goodP = G at *
  simp [f_have_common, m_have_common, l1_have_common, lb1_have_common, forL, h, g, fnM, bnd, Mp.ret, lift, stk, seqS, retS, asgS, dropS, ifS, setv, getv, peekv, op1, op2, ap1, ap2, asB, chain2, testM, truM, truO, andV, orV, notV, ifV, andB, orB, notB, argN, argC, mkTup, mkLst, frzd, callM, onMs, subsO, lenO, absO, isiO, D.tg, isTy, tgtT, tgtC, tgtN, par2, par3, forS, seqI, srcD, catO, addO, subO, repO, mulO, fdivO, modO, negO, ltO, leO, gtO, geO, cmpI, gcdO, maxO, minO, intO, tupleO, listO]
theorem hb3 (s : S) : f_have_common [pairD goodP, pairD goodP, pairD goodP, b] s = .err (.ref 1) [("value", b)] s := by
  have g := fun s => e_want_spot goodP s good_sp
  generalize pairD goodP = G at *
  simp [f_have_common, m_have_common, l1_have_common, lb1_have_common, forL, h, g, fnM, bnd, Mp.ret, lift, stk, seqS, retS, asgS, dropS, ifS, setv, getv, peekv, op1, op2, ap1, ap2, asB, chain2, testM, truM, truO, andV, orV, notV, ifV, andB, orB, notB, argN, argC, mkTup, mkLst, frzd, callM, onMs, subsO, lenO, absO, isiO, D.tg, isTy, tgtT, tgtC, tgtN, par2, par3, forS, seqI, srcD, catO, addO, subO, repO, mulO, fdivO, modO, negO, ltO, leO, gtO, geO, cmpI, gcdO, maxO, minO, intO, tupleO, listO]
end
def ValOk (v : D) : Prop := (∀ s, f_are_spots [v] s = .ok (.bl false) s) ∧ Shw v
def vals (b : D) : List D := [.non, .tup [], .tup [.tup [.int 0, .int 0], .tup [.int 1, .int 0]], .lst [.tup [.int 0, .int 0], .tup [.int 1, .int 0], .tup [.int 0, .int 1]], .tup [.tup [.int 0, .int 0], .tup [.int 1, .int 0], .tup [.int 0, .int 0]], .tup [.tup [.int 0, .int 0], .tup [.int 1, .int 1], .tup [.int 2, .int 2]], .tup [.tup [.int 0, .int 0], .tup [.int 1, .int 0], b]]
theorem sd (ps : List Pt) (h : ps.all (fun p => decide (-999 ≤ p.1) && decide (p.1 ≤ 999) && (decide (-999 ≤ p.2) && decide (p.2 ≤ 999))) = true) : ∀ p ∈ ps, Sp p := fun p hp => by
  have := List.all_eq_true.mp h p hp
  simp only [Bool.and_eq_true, decide_eq_true_eq] at this
  exact this
theorem pts_no (ps : List Pt) (h : ∀ p ∈ ps, Sp p) (hl : ps.length < 64) (hb : spotsB ps = false) (s : S) : f_are_spots [.tup (ps.map pairD)] s = .ok (.bl false) s := by rw [e_are_spots ps s h hl, hb]
theorem vals_ok (b : D) (hb : b ∈ bads) : ∀ v ∈ vals b, ValOk v := by
  intro v hv
  unfold vals at hv
  simp only [List.mem_cons, List.not_mem_nil, or_false] at hv
  rcases hv with rfl | rfl | rfl | rfl | rfl | rfl | rfl
  · refine ⟨fun s => ?_, shw rfl (by decide +kernel)⟩
    simp [f_are_spots, m_are_spots, fnM, bnd, Mp.ret, lift, stk, seqS, retS, asgS, dropS, ifS, setv, getv, peekv, op1, op2, ap1, ap2, asB, chain2, testM, truM, truO, andV, orV, notV, ifV, andB, orB, notB, argN, argC, mkTup, mkLst, frzd, callM, onMs, subsO, lenO, absO, isiO, D.tg, isTy, tgtT, tgtC, tgtN, par2, par3, forS, seqI, srcD, catO, addO, subO, repO, mulO, fdivO, modO, negO, ltO, leO, gtO, geO, cmpI, gcdO, maxO, minO, intO, tupleO, listO]
  · exact ⟨pts_no [] (by simp) (by decide) (by decide +kernel), shw rfl (by decide +kernel)⟩
  · exact ⟨pts_no [(0, 0), (1, 0)] (sd _ (by decide)) (by decide) (by decide +kernel), shw rfl (by decide +kernel)⟩
  · refine ⟨fun s => ?_, shw rfl (by decide +kernel)⟩
    simp [f_are_spots, m_are_spots, fnM, bnd, Mp.ret, lift, stk, seqS, retS, asgS, dropS, ifS, setv, getv, peekv, op1, op2, ap1, ap2, asB, chain2, testM, truM, truO, andV, orV, notV, ifV, andB, orB, notB, argN, argC, mkTup, mkLst, frzd, callM, onMs, subsO, lenO, absO, isiO, D.tg, isTy, tgtT, tgtC, tgtN, par2, par3, forS, seqI, srcD, catO, addO, subO, repO, mulO, fdivO, modO, negO, ltO, leO, gtO, geO, cmpI, gcdO, maxO, minO, intO, tupleO, listO]
  · exact ⟨pts_no [(0, 0), (1, 0), (0, 0)] (sd _ (by decide)) (by decide) (by decide +kernel), shw rfl (by decide +kernel)⟩
  · exact ⟨pts_no [(0, 0), (1, 1), (2, 2)] (sd _ (by decide)) (by decide) (by decide +kernel), shw rfl (by decide +kernel)⟩
  · refine ⟨fun s => are_bad b (bads_spot b hb) s, ?_⟩
    unfold bads at hb
    simp only [List.mem_cons, List.not_mem_nil, or_false] at hb
    rcases hb with rfl | rfl | rfl | rfl | rfl | rfl | rfl | rfl | rfl <;> exact shw rfl (by decide +kernel)
def manyP : List Pt := (List.range 25).map fun i : Nat => ((i : Int), (i : Int) * (i : Int))
theorem many_sp : ∀ p ∈ manyP, Sp p := sd _ (by decide +kernel)
theorem many_25 : manyP.length < 64 := by unfold manyP; rw [List.length_map, List.length_range]; decide
theorem many_no : spotsB manyP = false := by decide +kernel
theorem many_yes : spotsB (manyP.take 24) = true := by decide +kernel
theorem many_len : (ringS (manyP.take 24)).length = 24 := by decide +kernel
theorem sok_of {t : PySem.Str} (h : ∀ k, 0x110000 ≤ k → k ∉ t.cps.toList) : PyData.strOk t = true := by
  unfold PyData.strOk
  rw [Array.all_eq_true_iff_forall_mem]
  intro c hc
  rw [decide_eq_true_eq]
  rcases Nat.lt_or_ge c 0x110000 with z | z
  · exact z
  · exact absurd (Array.mem_toList_iff.mpr hc) (h c z)
theorem tup_free {k : Nat} (hk : 0x110000 ≤ k) (xs : List PyData) (h : ∀ x ∈ xs, k ∉ x.shown.cps.toList) : k ∉ (PyData.tuple xs).shown.cps.toList := by
  have hs := PyProof.Rows.shownAll_free h
  show k ∉ ((("(" : String) : PySem.Str) ++ PySem.Str.join ", " (PyData.shownAll xs) ++ ((if (PyData.shownAll xs).length == 1 then ",)" else ")" : String) : PySem.Str)).cps.toList
  rw [PyProof.Rows.mem_cps_append, PyProof.Rows.mem_cps_append, PyProof.Rows.signs_lparen, PyProof.Rows.mem_join, PyProof.Rows.signs_tuple_end]
  rintro ((hm | (⟨t, ht, hc⟩ | ⟨_, hm⟩)) | hm)
  · simp at hm; omega
  · exact hs t ht hc
  · rw [PyProof.Rows.signs_sep] at hm; simp at hm; omega
  · split at hm <;> simp at hm <;> omega
theorem pp_free {k : Nat} (hk : 0x110000 ≤ k) (p : Pt) : k ∉ (pp p).shown.cps.toList := tup_free hk _ (by
  intro x hx
  simp only [List.mem_cons, List.not_mem_nil, or_false] at hx
  rcases hx with rfl | rfl <;> exact PyProof.Rows.shown_int_free' ⟨by omega, by omega⟩ _)
theorem many_shw : Shw (.tup (manyP.map pairD)) := by
  obtain ⟨y, hy, sw⟩ := Rp.tup (w := 2) (e := 1) (xs := manyP.map pairD) (by
    intro x hx
    obtain ⟨p, hp, rfl⟩ := List.mem_map.mp hx
    exact Rp_pair (many_sp p hp))
  rw [py_t] at hy
  cases hy
  have hl : (2 + 1) * (manyP.map pairD).length ≤ 4900 := by decide +kernel
  have h3 := PySem.PyData.shown_le_bulk 2000 (by decide) (PyData.tuple (manyP.map pp)) sw.l
  have h4 : (2000 + 2) * (PyData.tuple (manyP.map pp)).bulk ≤ 2002 * 4900 := Nat.mul_le_mul_left 2002 (Nat.le_trans sw.b hl)
  have h5 : (PyData.tuple (manyP.map pp)).shown.length ≤ 10000000 := by omega
  have h6 : (PyData.tuple (manyP.map pp)).depth ≤ 60 := Nat.le_trans sw.d (by decide)
  have ho : PyData.strOk (PyData.tuple (manyP.map pp)).shown = true := sok_of fun k hk => tup_free hk _ (by
    intro x hx
    obtain ⟨p, _, rfl⟩ := List.mem_map.mp hx
    exact pp_free hk p)
  exact shw (py_t manyP) (by simp only [sw.s, sw.h, ho, decide_eq_true h5, decide_eq_true h6]; rfl)
end K12

set_option linter.all false
set_option maxRecDepth 100000
namespace K12
open Mp Hul
open PySem (PyData)
section
variable (L : PySem.Addr) (b : D) (P : D) (ms : List (List D))
theorem str_spot : PyData.strOk "spot" = true ∧ PyData.strOk "places" = true := by decide +kernel
def calls6 (L : PySem.Addr) : List D := [.clo L 0, .clo L 1, .clo L 2, .clo L 3, .clo L 4, .clo L 5]
theorem e_calls (hb : b ∈ bads) : c2_law_refused_right L ⟨[.val P, .val b, .val (pairD goodP), .own (calls6 L), .un, .un, .un, .un], ms⟩ = .ok [] ⟨[.val P, .val b, .val (pairD goodP), .val (.lst (calls6 L)), .un, .un, .un, .un], ms⟩ := by
  have w := e_want_bad b (bads_spot b hb)
  obtain ⟨t, ht, ho⟩ := bads_rp b hb
  have a0 := tb0 b w
  have a1 := tb1' b w
  have a2 := tb2 b w
  have a3 := hb0 b w
  have a4 := hb2 b w
  have a5 := hb3 b w
  have nh := fun s => ne_heard "spot" t s str_spot.1 ho
  have hh : ∀ (n : Nat) (s : S), n < 6 → f_law_heard (frameActs L lams_law_refused_right [.val P, .val b, .val (pairD goodP), .val (.lst (calls6 L)), .un, .un, .un, .un]) [.clo L n] s = .ok (.lst [.str "spot", .str t, .bl true]) s := by
    intro n s hn
    refine heard1 _ L n s b t ?_ ht
    generalize pairD goodP = G at *
    rcases (by omega : n = 0 ∨ n = 1 ∨ n = 2 ∨ n = 3 ∨ n = 4 ∨ n = 5) with rfl | rfl | rfl | rfl | rfl | rfl <;>
    simp [frameActs, runLam, valsOf, lams_law_refused_right, lm_0, lm_1, lm_2, lm_3, lm_4, lm_5, a0, a1, a2, a3, a4, a5, fnM, bnd, Mp.ret, lift, stk, seqS, retS, asgS, dropS, ifS, setv, getv, peekv, op1, op2, ap1, ap2, asB, chain2, testM, truM, truO, andV, orV, notV, ifV, andB, orB, notB, argN, argC, mkTup, mkLst, frzd, callM, onMs, subsO, lenO, absO, isiO, D.tg, isTy, tgtT, tgtC, tgtN, par2, par3, forS, seqI, srcD, catO, addO, subO, repO, mulO, fdivO, modO, negO, ltO, leO, gtO, geO, cmpI, gcdO, maxO, minO, intO, tupleO, listO]
  have h0 := fun s => hh 0 s (by decide)
  have h1 := fun s => hh 1 s (by decide)
  have h2 := fun s => hh 2 s (by decide)
  have h3 := fun s => hh 3 s (by decide)
  have h4 := fun s => hh 4 s (by decide)
  have h5 := fun s => hh 5 s (by decide)
  unfold c2_law_refused_right lcMC
  have src : (seqI (getv 3)) ⟨[.val P, .val b, .val (pairD goodP), .own (calls6 L), .un, .un, .un, .un], ms⟩ = .ok (calls6 L) ⟨[.val P, .val b, .val (pairD goodP), .val (.lst (calls6 L)), .un, .un, .un, .un], ms⟩ := by
    simp [fnM, bnd, Mp.ret, lift, stk, seqS, retS, asgS, dropS, ifS, setv, getv, peekv, op1, op2, ap1, ap2, asB, chain2, testM, truM, truO, andV, orV, notV, ifV, andB, orB, notB, argN, argC, mkTup, mkLst, frzd, callM, onMs, subsO, lenO, absO, isiO, D.tg, isTy, tgtT, tgtC, tgtN, par2, par3, forS, seqI, srcD, catO, addO, subO, repO, mulO, fdivO, modO, negO, ltO, leO, gtO, geO, cmpI, gcdO, maxO, minO, intO, tupleO, listO]
  unfold bnd
  rw [src]
  simp only
  generalize (frameActs L lams_law_refused_right [.val P, .val b, .val (pairD goodP), .val (.lst (calls6 L)), .un, .un, .un, .un]) = AC at *
  have one : ∀ n, n < 6 → lcT (setv 6) (ct1_law_refused_right L AC) (ce2_law_refused_right L AC) (.clo L n) ⟨[.val P, .val b, .val (pairD goodP), .val (.lst (calls6 L)), .un, .un, .un, .un], ms⟩ = .ok none ⟨[.val P, .val b, .val (pairD goodP), .val (.lst (calls6 L)), .un, .un, .val (.clo L n), .un], ms⟩ := by
    intro n hn
    have hn' := fun s => hh n s hn
    generalize pairD goodP = G at *
    generalize calls6 L = C6 at *
    simp [lcT, ct1_law_refused_right, callCM, hn', ht, nh, fnM, bnd, Mp.ret, lift, stk, seqS, retS, asgS, dropS, ifS, setv, getv, peekv, op1, op2, ap1, ap2, asB, chain2, testM, truM, truO, andV, orV, notV, ifV, andB, orB, notB, argN, argC, mkTup, mkLst, frzd, callM, onMs, subsO, lenO, absO, isiO, D.tg, isTy, tgtT, tgtC, tgtN, par2, par3, forS, seqI, srcD, catO, addO, subO, repO, mulO, fdivO, modO, negO, ltO, leO, gtO, geO, cmpI, gcdO, maxO, minO, intO, tupleO, listO]
  have := lcM_pure (vs := [6]) (src := ret (calls6 L)) (t := setv 6) (c := ct1_law_refused_right L AC) (f := ce2_law_refused_right L AC) (fun _ => none) (s := ⟨[.val P, .val b, .val (pairD goodP), .val (.lst (calls6 L)), .un, .un, .un, .un], ms⟩) (s1 := ⟨[.val P, .val b, .val (pairD goodP), .val (.lst (calls6 L)), .un, .un, .un, .un], ms⟩) (xs := calls6 L) rfl (by simp [calls6]) (by simp) (by
    intro x hx
    obtain ⟨n, hn, rfl⟩ : ∃ n, n < 6 ∧ x = .clo L n := by
      unfold calls6 at hx
      simp only [List.mem_cons, List.not_mem_nil, or_false] at hx
      rcases hx with rfl | rfl | rfl | rfl | rfl | rfl
      · exact ⟨0, by decide, rfl⟩
      · exact ⟨1, by decide, rfl⟩
      · exact ⟨2, by decide, rfl⟩
      · exact ⟨3, by decide, rfl⟩
      · exact ⟨4, by decide, rfl⟩
      · exact ⟨5, by decide, rfl⟩
    exact ⟨[.val P, .val b, .val (pairD goodP), .val (.lst (calls6 L)), .un, .un, .val (.clo L n), .un], one n hn, by simp [wipeE]⟩)
  rw [this]
  simp [restE, wipeE, keepVal, calls6]
theorem hull_heard {v : D} (hv : ValOk v) (i : Nat) (env : List Sl) (hl : lams_law_refused_right i = callM f_hull (argC (getv (if i = 6 then 4 else 5)) argN)) (he : env[if i = 6 then 4 else 5]? = some (.val v)) : ∃ t, PyData.strOk t = true ∧ (∀ s, reprO v s = some (.str t)) ∧ ∀ s, f_law_heard (frameActs L lams_law_refused_right env) [.clo L i] s = .ok (.lst [.str "places", .str t, .bl true]) s := by
  obtain ⟨h1, t, ht, ho⟩ := hv
  have hb := e_hull_bad v
  refine ⟨t, ho, ht, fun s => heard0 _ L i s v t ?_ ht⟩
  have gv : ∀ ms, getv (if i = 6 then 4 else 5) ⟨valsOf env, ms⟩ = .ok v ⟨valsOf env, ms⟩ := fun ms => by
    unfold getv valsOf
    simp [he]
  have hb' := fun s => hb s h1
  simp [frameActs, runLam, hl, callM, argC, argN, bnd, Mp.ret, onMs, gv, hb']
end
theorem e_vals (L : PySem.Addr) (b : D) (hb : b ∈ bads) (P : D) (ms : List (List D)) : ∃ x4, l1_law_refused_right L ⟨[.val P, .val b, .val (pairD goodP), .val (.lst (calls6 L)), .un, .un, .un, .un], ms⟩ = .ok .nx ⟨[.val P, .val b, .val (pairD goodP), .val (.lst (calls6 L)), x4, .un, .un, .un], ms⟩ := by
  have ok := vals_ok b hb
  obtain ⟨s', e, _, x4, rfl⟩ := forL_inv (t := setv 4) (b := lb1_law_refused_right L) (fun xs s => (∀ v ∈ xs, ValOk v) ∧ ∃ x4, s = ⟨[.val P, .val b, .val (pairD goodP), .val (.lst (calls6 L)), x4, .un, .un, .un], ms⟩)
    (xs := vals b) (s := ⟨[.val P, .val b, .val (pairD goodP), .val (.lst (calls6 L)), .un, .un, .un, .un], ms⟩) ⟨ok, _, rfl⟩ (by
      rintro v xs _ ⟨hx, x4, rfl⟩
      obtain ⟨t, ho, ht, hh⟩ := hull_heard L (hx v List.mem_cons_self) 6 [.val P, .val b, .val (pairD goodP), .val (.lst (calls6 L)), .val v, .un, .un, .un] rfl rfl
      have nh := fun s => ne_heard "places" t s str_spot.2 ho
      refine ⟨⟨[.val P, .val b, .val (pairD goodP), .val (.lst (calls6 L)), .val v, .un, .un, .un], ms⟩, ⟨[.val P, .val b, .val (pairD goodP), .val (.lst (calls6 L)), .val v, .un, .un, .un], ms⟩, ?_, ?_, fun v hv => hx v (List.mem_cons_of_mem _ hv), _, rfl⟩
      · generalize pairD goodP = G at *
        generalize calls6 L = C6 at *
        simp [fnM, bnd, Mp.ret, lift, stk, seqS, retS, asgS, dropS, ifS, setv, getv, peekv, op1, op2, ap1, ap2, asB, chain2, testM, truM, truO, andV, orV, notV, ifV, andB, orB, notB, argN, argC, mkTup, mkLst, frzd, callM, onMs, subsO, lenO, absO, isiO, D.tg, isTy, tgtT, tgtC, tgtN, par2, par3, forS, seqI, srcD, catO, addO, subO, repO, mulO, fdivO, modO, negO, ltO, leO, gtO, geO, cmpI, gcdO, maxO, minO, intO, tupleO, listO]
      · generalize pairD goodP = G at *
        generalize calls6 L = C6 at *
        simp [lb1_law_refused_right, callCM, cloM, hh, ht, nh, fnM, bnd, Mp.ret, lift, stk, seqS, retS, asgS, dropS, ifS, setv, getv, peekv, op1, op2, ap1, ap2, asB, chain2, testM, truM, truO, andV, orV, notV, ifV, andB, orB, notB, argN, argC, mkTup, mkLst, frzd, callM, onMs, subsO, lenO, absO, isiO, D.tg, isTy, tgtT, tgtC, tgtN, par2, par3, forS, seqI, srcD, catO, addO, subO, repO, mulO, fdivO, modO, negO, ltO, leO, gtO, geO, cmpI, gcdO, maxO, minO, intO, tupleO, listO])
  refine ⟨x4, ?_⟩
  unfold vals at e
  generalize pairD goodP = G at *
  generalize calls6 L = C6 at *
  simp [l1_law_refused_right, e, fnM, bnd, Mp.ret, lift, stk, seqS, retS, asgS, dropS, ifS, setv, getv, peekv, op1, op2, ap1, ap2, asB, chain2, testM, truM, truO, andV, orV, notV, ifV, andB, orB, notB, argN, argC, mkTup, mkLst, frzd, callM, onMs, subsO, lenO, absO, isiO, D.tg, isTy, tgtT, tgtC, tgtN, par2, par3, forS, seqI, srcD, catO, addO, subO, repO, mulO, fdivO, modO, negO, ltO, leO, gtO, geO, cmpI, gcdO, maxO, minO, intO, tupleO, listO]
theorem e_many (L : PySem.Addr) (e0 : List Sl) (ms : List (List D)) (h8 : e0.length = 8) (h7 : e0[7]? = some .un) : c1_law_refused_right L ⟨e0, ms⟩ = .ok (manyP.map pairD) ⟨e0, ms⟩ := by
  match e0, h8 with
  | [y0, y1, y2, y3, y4, y5, y6, y7], _ =>
    have : y7 = .un := by simpa using h7
    subst this
    have ro : rng1O [.int 25] = some (rangeD 0 25) := by simp [rng1O]
    have rd : rangeD 0 25 = (List.range 25).map fun i : Nat => D.int (i : Int) := by
      unfold rangeD
      have : ((25 : Int) - 0).toNat = 25 := by decide
      rw [this]
      refine List.map_congr_left fun i _ => ?_
      rw [Int.zero_add]
    rw [rd] at ro
    have c := lcM_map (fun i : Nat => D.int (i : Int)) (List.range 25) (vs := [7]) (src := overA rng1O (argC (ret (.int 25)) argN)) (t := setv 7) (c := yesM) (f := ce1_law_refused_right L) (fun i => some (pairD ((i : Int), (i : Int) * (i : Int)))) (s := ⟨[y0, y1, y2, y3, y4, y5, y6, .un], ms⟩) (by
      generalize (List.range 25).map (fun i : Nat => D.int (i : Int)) = RR at *
      simp [overA, ro, fnM, bnd, Mp.ret, lift, stk, seqS, retS, asgS, dropS, ifS, setv, getv, peekv, op1, op2, ap1, ap2, asB, chain2, testM, truM, truO, andV, orV, notV, ifV, andB, orB, notB, argN, argC, mkTup, mkLst, frzd, callM, onMs, subsO, lenO, absO, isiO, D.tg, isTy, tgtT, tgtC, tgtN, par2, par3, forS, seqI, srcD, catO, addO, subO, repO, mulO, fdivO, modO, negO, ltO, leO, gtO, geO, cmpI, gcdO, maxO, minO, intO, tupleO, listO]) (by simp) (by simp) (by
      intro i hi
      have hi := List.mem_range.mp hi
      have mo : mulOk (i : Int) (i : Int) = true := mulOk_of (n := 20) (m := 20) (by omega) (by omega) (by decide)
      refine ⟨[y0, y1, y2, y3, y4, y5, y6, .val (.int (i : Int))], ?_, by simp [wipeE]⟩
      simp [lcT, wipeE, yesM, ce1_law_refused_right, mo, pairD, fnM, bnd, Mp.ret, lift, stk, seqS, retS, asgS, dropS, ifS, setv, getv, peekv, op1, op2, ap1, ap2, asB, chain2, testM, truM, truO, andV, orV, notV, ifV, andB, orB, notB, argN, argC, mkTup, mkLst, frzd, callM, onMs, subsO, lenO, absO, isiO, D.tg, isTy, tgtT, tgtC, tgtN, par2, par3, forS, seqI, srcD, catO, addO, subO, repO, mulO, fdivO, modO, negO, ltO, leO, gtO, geO, cmpI, gcdO, maxO, minO, intO, tupleO, listO])
    rw [filterMap_some_map] at c
    unfold c1_law_refused_right
    rw [c]
    unfold manyP
    rw [List.map_map]
    simp [restE, wipeE, keepVal, Function.comp]
theorem many_hull (s : S) : f_hull [.tup ((manyP.take 24).map pairD)] s = .ok (.tup ((ringS (manyP.take 24)).map pairD)) s := e_hull (manyP.take 24) s (fun p hp => many_sp p (List.mem_of_mem_take hp)) (by rw [List.length_take]; omega) many_yes
theorem many_facts : ∃ M25 M24 RG : List D, (∀ (L : PySem.Addr) (e0 : List Sl) (ms : List (List D)), e0.length = 8 → e0[7]? = some .un → c1_law_refused_right L ⟨e0, ms⟩ = .ok M25 ⟨e0, ms⟩) ∧ ValOk (.tup M25) ∧ cutD M25 none (some 24) = M24 ∧ (∀ s, f_hull [.tup M24] s = .ok (.tup RG) s) ∧ RG.length = 24 := by
  refine ⟨manyP.map pairD, (manyP.take 24).map pairD, (ringS (manyP.take 24)).map pairD, e_many, ⟨pts_no manyP many_sp many_25 many_no, many_shw⟩, ?_, many_hull, ?_⟩
  · rw [List.map_take]
    exact cutD_take _ 24
  · rw [List.length_map]
    exact many_len
theorem k_refused_right (n : Nat) (hn : n < 2) (s : S) (ht : Two s.ms) : ∃ ms' : List (List D), f_law_refused_right [.ref n] s = .ok (.bl true) ⟨s.env, ms'⟩ ∧ Two ms' := by
  obtain ⟨b, ms1, e1, hb, t1⟩ := k_pick n hn bads ⟨[], s.ms⟩ ht (by simp [bads]) (by decide)
  refine ⟨ms1, ?_, t1⟩
  refine indep_ok fun L => ?_
  have ec := e_calls L b (.ref n) ms1 hb
  obtain ⟨x4, ev⟩ := e_vals L b hb (.ref n) ms1
  obtain ⟨M25, M24, RG, em, mok, tk, eh, hl⟩ := many_facts
  have em := em L [.val (.ref n), .val b, .val (pairD goodP), .val (.lst (calls6 L)), x4, .un, .un, .un] ms1 rfl rfl
  obtain ⟨t, ho, ht2, hh⟩ := hull_heard L mok 7 [.val (.ref n), .val b, .val (pairD goodP), .val (.lst (calls6 L)), x4, .val (.tup M25), .un, .un] rfl rfl
  have eq := fun s => eq_heard "places" t s str_spot.2 ho
  have q0 : ∀ s : S, neO (.lst []) (.lst []) s = some (.bl false) := fun s => by
    have := ne_lst [] [] s
    simpa using this
  have g0 : (pairD goodP) = .tup [.int 999, .int (-999)] := rfl
  have c6 : calls6 L = [.clo L 0, .clo L 1, .clo L 2, .clo L 3, .clo L 4, .clo L 5] := rfl
  rw [g0, c6] at ec ev em hh
  unfold bads at e1
  simp [m_law_refused_right, fnM, e1, ec, ev, em, hh, ht2, eq, eh, hl, q0, tk, callCM, cloM, ownS, setown, appS, ownOf, eq_int, tupleO, sliceM, slO, partN, partS, tgtT2, fnM, bnd, Mp.ret, lift, stk, seqS, retS, asgS, dropS, ifS, setv, getv, peekv, op1, op2, ap1, ap2, asB, chain2, testM, truM, truO, andV, orV, notV, ifV, andB, orB, notB, argN, argC, mkTup, mkLst, frzd, callM, onMs, subsO, lenO, absO, isiO, D.tg, isTy, tgtT, tgtC, tgtN, par2, par3, forS, seqI, srcD, catO, addO, subO, repO, mulO, fdivO, modO, negO, ltO, leO, gtO, geO, cmpI, gcdO, maxO, minO, intO, tupleO, listO]
end K12

set_option linter.all false
set_option maxRecDepth 100000
namespace K12
open Mp Hul
theorem plain : ∀ ns : List Int, ns.length ≤ 63 → (∀ z ∈ ns, PySem.Builtin.Int.intBits z ≤ 1048576) → ∃ s', f_law [.scr (ns.map .int)] ⟨[], []⟩ = .ok (.bl true) s' := by
  intro ns _ _
  obtain ⟨a, b, e0, a0, b0, b1⟩ := e_pot ns 0 ⟨[], []⟩ (by decide)
  obtain ⟨c, d, e1, c0, d0, d1⟩ := e_pot ns 1 ⟨[], [[.int a, .int b]]⟩ (by decide)
  have e0 : f_law_pot [.scr (ns.map .int), .int 0] ⟨[], []⟩ = .ok (.ref 0) ⟨[], [[.int a, .int b]]⟩ := e0
  have e1 : f_law_pot [.scr (ns.map .int), .int 1] ⟨[], [[.int a, .int b]]⟩ = .ok (.ref 1) ⟨[], [[.int a, .int b], [.int c, .int d]]⟩ := e1
  have t0 : Two [[.int a, .int b], [.int c, .int d]] := ⟨⟨a, b, rfl, a0, b0, b1⟩, ⟨c, d, rfl, c0, d0, d1⟩, rfl⟩
  obtain ⟨s', el, x3, ms, rfl, t1⟩ := forL_inv (t := setv 3) (b := lb1_law) (fun xs s => ∃ x3 ms, s = ⟨[.val (.scr (ns.map .int)), .val (.ref 0), .val (.ref 1), x3], ms⟩ ∧ Two ms)
    (xs := rangeD 0 4) (s := ⟨[.val (.scr (ns.map .int)), .val (.ref 0), .val (.ref 1), .un], [[.int a, .int b], [.int c, .int d]]⟩) ⟨_, _, rfl, t0⟩ (by
      rintro x xs _ ⟨x3, ms, rfl, tw⟩
      obtain ⟨msA, f1, tA⟩ := k_lines_right 0 (by decide) ⟨[], ms⟩ tw
      obtain ⟨msB, f2, tB⟩ := k_lines_right 1 (by decide) ⟨[], msA⟩ tA
      generalize D.scr (ns.map .int) = SC at *
      refine ⟨⟨[.val SC, .val (.ref 0), .val (.ref 1), .val x], ms⟩, ⟨[.val SC, .val (.ref 0), .val (.ref 1), .val x], msB⟩, ?_, ?_, _, _, rfl, tB⟩
      · simp [fnM, bnd, Mp.ret, lift, stk, seqS, retS, asgS, dropS, ifS, setv, getv, peekv, op1, op2, ap1, ap2, asB, chain2, testM, truM, truO, andV, orV, notV, ifV, andB, orB, notB, argN, argC, mkTup, mkLst, frzd, callM, onMs, subsO, lenO, absO, isiO, D.tg, isTy, tgtT, tgtC, tgtN, par2, par3, forS, seqI, srcD, catO, addO, subO, repO, mulO, fdivO, modO, negO, ltO, leO, gtO, geO, cmpI, gcdO, maxO, minO, intO, tupleO, listO]
      · simp [lb1_law, f1, f2, fnM, bnd, Mp.ret, lift, stk, seqS, retS, asgS, dropS, ifS, setv, getv, peekv, op1, op2, ap1, ap2, asB, chain2, testM, truM, truO, andV, orV, notV, ifV, andB, orB, notB, argN, argC, mkTup, mkLst, frzd, callM, onMs, subsO, lenO, absO, isiO, D.tg, isTy, tgtT, tgtC, tgtN, par2, par3, forS, seqI, srcD, catO, addO, subO, repO, mulO, fdivO, modO, negO, ltO, leO, gtO, geO, cmpI, gcdO, maxO, minO, intO, tupleO, listO])
  obtain ⟨msC, f3, tC⟩ := k_hull_right 0 (by decide) ⟨[], ms⟩ t1
  obtain ⟨msD, f4, tD⟩ := k_hull_right 1 (by decide) ⟨[], msC⟩ tC
  obtain ⟨msE, f5, tE⟩ := k_refused_right 0 (by decide) ⟨[], msD⟩ tD
  have ro : rng1O [.int 4] = some (rangeD 0 4) := by simp [rng1O]
  refine ⟨⟨[], msE⟩, ?_⟩
  generalize rangeD 0 4 = RR at *
  generalize D.scr (ns.map .int) = SC at *
  simp [f_law, m_law, l1_law, overA, ro, e0, e1, el, f3, f4, f5, fnM, bnd, Mp.ret, lift, stk, seqS, retS, asgS, dropS, ifS, setv, getv, peekv, op1, op2, ap1, ap2, asB, chain2, testM, truM, truO, andV, orV, notV, ifV, andB, orB, notB, argN, argC, mkTup, mkLst, frzd, callM, onMs, subsO, lenO, absO, isiO, D.tg, isTy, tgtT, tgtC, tgtN, par2, par3, forS, seqI, srcD, catO, addO, subO, repO, mulO, fdivO, modO, negO, ltO, leO, gtO, geO, cmpI, gcdO, maxO, minO, intO, tupleO, listO]
end K12

set_option Elab.async false
set_option linter.all false
set_option maxRecDepth 100000
set_option maxHeartbeats 4000000
open PySem PySem.W PyProof.Rows
set_option maxHeartbeats 0 in
theorem PySem.Challenge.cw_roofshadows_k12_turns_hulls_common_point_holds : PySem.Challenge.rw_roofshadows_k12_turns_hulls_common_point.Holds := by
  w_on; o_law; k_head; (case hw => w_witness2)
  k_fill
  refine Mp.walk_G (l := PySem.Challenge.rw_roofshadows_k12_turns_hulls_common_point) (n := 63) (k := 10) (x := "script") rfl (by decide) rfl ⟨rfl, by decide, by decide⟩ Mp.callerA_guards (fun w h Y => PySem.W.km_in_of Y) ?F
  case F =>
    intro w mg fa h Y KX G hmg
    obtain ⟨a_is_integer, d_is_integer, F_is_integer, g_is_integer⟩ : ∃ f fd, L2.Fun _ "is_integer" "is_integer" K12.s_is_integer f fd ∧ mg "is_integer" = some (.ref f) := by
      refine' Mp.fun_get KX G ?a ?l ?c ?k
      (case a => k_is); (case l => k_is); (case c => k_is); (case k => k_is)
    obtain ⟨a_is_within, d_is_within, F_is_within, g_is_within⟩ : ∃ f fd, L2.Fun _ "is_within" "is_within" K12.s_is_within f fd ∧ mg "is_within" = some (.ref f) := by
      refine' Mp.fun_get KX G ?a ?l ?c ?k
      (case a => k_is); (case l => k_is); (case c => k_is); (case k => k_is)
    obtain ⟨a_is_row, d_is_row, F_is_row, g_is_row⟩ : ∃ f fd, L2.Fun _ "is_row" "is_row" K12.s_is_row f fd ∧ mg "is_row" = some (.ref f) := by
      refine' Mp.fun_get KX G ?a ?l ?c ?k
      (case a => k_is); (case l => k_is); (case c => k_is); (case k => k_is)
    obtain ⟨a_is_spot, d_is_spot, F_is_spot, g_is_spot⟩ : ∃ f fd, L2.Fun _ "is_spot" "is_spot" K12.s_is_spot f fd ∧ mg "is_spot" = some (.ref f) := by
      refine' Mp.fun_get KX G ?a ?l ?c ?k
      (case a => k_is); (case l => k_is); (case c => k_is); (case k => k_is)
    obtain ⟨a_want_spot, d_want_spot, F_want_spot, g_want_spot⟩ : ∃ f fd, L2.Fun _ "want_spot" "want_spot" K12.s_want_spot f fd ∧ mg "want_spot" = some (.ref f) := by
      refine' Mp.fun_get KX G ?a ?l ?c ?k
      (case a => k_is); (case l => k_is); (case c => k_is); (case k => k_is)
    obtain ⟨a_cross, d_cross, F_cross, g_cross⟩ : ∃ f fd, L2.Fun _ "cross" "cross" K12.s_cross f fd ∧ mg "cross" = some (.ref f) := by
      refine' Mp.fun_get KX G ?a ?l ?c ?k
      (case a => k_is); (case l => k_is); (case c => k_is); (case k => k_is)
    obtain ⟨a_way_of, d_way_of, F_way_of, g_way_of⟩ : ∃ f fd, L2.Fun _ "way_of" "way_of" K12.s_way_of f fd ∧ mg "way_of" = some (.ref f) := by
      refine' Mp.fun_get KX G ?a ?l ?c ?k
      (case a => k_is); (case l => k_is); (case c => k_is); (case k => k_is)
    obtain ⟨a_turn_of, d_turn_of, F_turn_of, g_turn_of⟩ : ∃ f fd, L2.Fun _ "turn_of" "turn_of" K12.s_turn_of f fd ∧ mg "turn_of" = some (.ref f) := by
      refine' Mp.fun_get KX G ?a ?l ?c ?k
      (case a => k_is); (case l => k_is); (case c => k_is); (case k => k_is)
    obtain ⟨a_are_spots, d_are_spots, F_are_spots, g_are_spots⟩ : ∃ f fd, L2.Fun _ "are_spots" "are_spots" K12.s_are_spots f fd ∧ mg "are_spots" = some (.ref f) := by
      refine' Mp.fun_get KX G ?a ?l ?c ?k
      (case a => k_is); (case l => k_is); (case c => k_is); (case k => k_is)
    obtain ⟨a_want_spots, d_want_spots, F_want_spots, g_want_spots⟩ : ∃ f fd, L2.Fun _ "want_spots" "want_spots" K12.s_want_spots f fd ∧ mg "want_spots" = some (.ref f) := by
      refine' Mp.fun_get KX G ?a ?l ?c ?k
      (case a => k_is); (case l => k_is); (case c => k_is); (case k => k_is)
    obtain ⟨a_dot, d_dot, F_dot, g_dot⟩ : ∃ f fd, L2.Fun _ "dot" "dot" K12.s_dot f fd ∧ mg "dot" = some (.ref f) := by
      refine' Mp.fun_get KX G ?a ?l ?c ?k
      (case a => k_is); (case l => k_is); (case c => k_is); (case k => k_is)
    obtain ⟨a_is_between, d_is_between, F_is_between, g_is_between⟩ : ∃ f fd, L2.Fun _ "is_between" "is_between" K12.s_is_between f fd ∧ mg "is_between" = some (.ref f) := by
      refine' Mp.fun_get KX G ?a ?l ?c ?k
      (case a => k_is); (case l => k_is); (case c => k_is); (case k => k_is)
    obtain ⟨a_is_beside, d_is_beside, F_is_beside, g_is_beside⟩ : ∃ f fd, L2.Fun _ "is_beside" "is_beside" K12.s_is_beside f fd ∧ mg "is_beside" = some (.ref f) := by
      refine' Mp.fun_get KX G ?a ?l ?c ?k
      (case a => k_is); (case l => k_is); (case c => k_is); (case k => k_is)
    obtain ⟨a_do_meet, d_do_meet, F_do_meet, g_do_meet⟩ : ∃ f fd, L2.Fun _ "do_meet" "do_meet" K12.s_do_meet f fd ∧ mg "do_meet" = some (.ref f) := by
      refine' Mp.fun_get KX G ?a ?l ?c ?k
      (case a => k_is); (case l => k_is); (case c => k_is); (case k => k_is)
    obtain ⟨a_chain_of, d_chain_of, F_chain_of, g_chain_of⟩ : ∃ f fd, L2.Fun _ "chain_of" "chain_of" K12.s_chain_of f fd ∧ mg "chain_of" = some (.ref f) := by
      refine' Mp.fun_get KX G ?a ?l ?c ?k
      (case a => k_is); (case l => k_is); (case c => k_is); (case k => k_is)
    obtain ⟨a_hull_ring, d_hull_ring, F_hull_ring, g_hull_ring⟩ : ∃ f fd, L2.Fun _ "hull_ring" "hull_ring" K12.s_hull_ring f fd ∧ mg "hull_ring" = some (.ref f) := by
      refine' Mp.fun_get KX G ?a ?l ?c ?k
      (case a => k_is); (case l => k_is); (case c => k_is); (case k => k_is)
    obtain ⟨a_turn, d_turn, F_turn, g_turn⟩ : ∃ f fd, L2.Fun _ "turn" "turn" K12.s_turn f fd ∧ mg "turn" = some (.ref f) := by
      refine' Mp.fun_get KX G ?a ?l ?c ?k
      (case a => k_is); (case l => k_is); (case c => k_is); (case k => k_is)
    obtain ⟨a_hull, d_hull, F_hull, g_hull⟩ : ∃ f fd, L2.Fun _ "hull" "hull" K12.s_hull f fd ∧ mg "hull" = some (.ref f) := by
      refine' Mp.fun_get KX G ?a ?l ?c ?k
      (case a => k_is); (case l => k_is); (case c => k_is); (case k => k_is)
    obtain ⟨a_have_common, d_have_common, F_have_common, g_have_common⟩ : ∃ f fd, L2.Fun _ "have_common" "have_common" K12.s_have_common f fd ∧ mg "have_common" = some (.ref f) := by
      refine' Mp.fun_get KX G ?a ?l ?c ?k
      (case a => k_is); (case l => k_is); (case c => k_is); (case k => k_is)
    obtain ⟨a_law_pot, d_law_pot, F_law_pot, g_law_pot⟩ : ∃ f fd, L2.Fun _ "_law_pot" "_law_pot" K12.s_law_pot f fd ∧ mg "_law_pot" = some (.ref f) := by
      refine' Mp.fun_get KX G ?a ?l ?c ?k
      (case a => k_is); (case l => k_is); (case c => k_is); (case k => k_is)
    obtain ⟨a_law_draw, d_law_draw, F_law_draw, g_law_draw⟩ : ∃ f fd, L2.Fun _ "_law_draw" "_law_draw" K12.s_law_draw f fd ∧ mg "_law_draw" = some (.ref f) := by
      refine' Mp.fun_get KX G ?a ?l ?c ?k
      (case a => k_is); (case l => k_is); (case c => k_is); (case k => k_is)
    obtain ⟨a_law_pick, d_law_pick, F_law_pick, g_law_pick⟩ : ∃ f fd, L2.Fun _ "_law_pick" "_law_pick" K12.s_law_pick f fd ∧ mg "_law_pick" = some (.ref f) := by
      refine' Mp.fun_get KX G ?a ?l ?c ?k
      (case a => k_is); (case l => k_is); (case c => k_is); (case k => k_is)
    obtain ⟨a_law_turn, d_law_turn, F_law_turn, g_law_turn⟩ : ∃ f fd, L2.Fun _ "_law_turn" "_law_turn" K12.s_law_turn f fd ∧ mg "_law_turn" = some (.ref f) := by
      refine' Mp.fun_get KX G ?a ?l ?c ?k
      (case a => k_is); (case l => k_is); (case c => k_is); (case k => k_is)
    obtain ⟨a_law_on, d_law_on, F_law_on, g_law_on⟩ : ∃ f fd, L2.Fun _ "_law_on" "_law_on" K12.s_law_on f fd ∧ mg "_law_on" = some (.ref f) := by
      refine' Mp.fun_get KX G ?a ?l ?c ?k
      (case a => k_is); (case l => k_is); (case c => k_is); (case k => k_is)
    obtain ⟨a_law_spots, d_law_spots, F_law_spots, g_law_spots⟩ : ∃ f fd, L2.Fun _ "_law_spots" "_law_spots" K12.s_law_spots f fd ∧ mg "_law_spots" = some (.ref f) := by
      refine' Mp.fun_get KX G ?a ?l ?c ?k
      (case a => k_is); (case l => k_is); (case c => k_is); (case k => k_is)
    obtain ⟨a_law_is_held, d_law_is_held, F_law_is_held, g_law_is_held⟩ : ∃ f fd, L2.Fun _ "_law_is_held" "_law_is_held" K12.s_law_is_held f fd ∧ mg "_law_is_held" = some (.ref f) := by
      refine' Mp.fun_get KX G ?a ?l ?c ?k
      (case a => k_is); (case l => k_is); (case c => k_is); (case k => k_is)
    obtain ⟨a_law_hull_right, d_law_hull_right, F_law_hull_right, g_law_hull_right⟩ : ∃ f fd, L2.Fun _ "_law_hull_right" "_law_hull_right" K12.s_law_hull_right f fd ∧ mg "_law_hull_right" = some (.ref f) := by
      refine' Mp.fun_get KX G ?a ?l ?c ?k
      (case a => k_is); (case l => k_is); (case c => k_is); (case k => k_is)
    obtain ⟨a_law_common, d_law_common, F_law_common, g_law_common⟩ : ∃ f fd, L2.Fun _ "_law_common" "_law_common" K12.s_law_common f fd ∧ mg "_law_common" = some (.ref f) := by
      refine' Mp.fun_get KX G ?a ?l ?c ?k
      (case a => k_is); (case l => k_is); (case c => k_is); (case k => k_is)
    obtain ⟨a_law_four, d_law_four, F_law_four, g_law_four⟩ : ∃ f fd, L2.Fun _ "_law_four" "_law_four" K12.s_law_four f fd ∧ mg "_law_four" = some (.ref f) := by
      refine' Mp.fun_get KX G ?a ?l ?c ?k
      (case a => k_is); (case l => k_is); (case c => k_is); (case k => k_is)
    obtain ⟨a_law_lines_right, d_law_lines_right, F_law_lines_right, g_law_lines_right⟩ : ∃ f fd, L2.Fun _ "_law_lines_right" "_law_lines_right" K12.s_law_lines_right f fd ∧ mg "_law_lines_right" = some (.ref f) := by
      refine' Mp.fun_get KX G ?a ?l ?c ?k
      (case a => k_is); (case l => k_is); (case c => k_is); (case k => k_is)
    obtain ⟨a_law_heard, d_law_heard, F_law_heard, g_law_heard⟩ : ∃ f fd, L2.Fun _ "_law_heard" "_law_heard" K12.s_law_heard f fd ∧ mg "_law_heard" = some (.ref f) := by
      refine' Mp.fun_get KX G ?a ?l ?c ?k
      (case a => k_is); (case l => k_is); (case c => k_is); (case k => k_is)
    have lf_law_refused_right := Mp.clsPack KX (fun K => ∃ (f : Addr) (fd : FuncData) (c P : Addr), Mp.FunL K "_law_refused_right" "_law_refused_right" K12.s_law_refused_right f fd c ∧ L2.Fun K "_law_refused_right" "_law_refused_right" K12.s_law_refused_right f fd ∧ mg "_law_refused_right" = some (.ref f) ∧ PySem.W.CodeHd h c P ∧ K.lookup P = none ∧ h.get? P = some ({ cls := .none, data := .fields #[] } : Obj)) (by
      try dsimp only
      refine' Mp.fun_getL KX G (PySem.W.km_tabs_of Y) ?a ?l ?c ?k ?tb ?t11 ?hd ?np ?hm
      (case a => k_is); (case l => k_is); (case c => k_is); (case k => k_is); (case tb => k_is); (case t11 => rfl); (case hd => kernel_rfl); (case np => kernel_rfl); (case hm => k_mem))
    try dsimp only at lf_law_refused_right
    obtain ⟨a_law_refused_right, d_law_refused_right, c_law_refused_right, P_law_refused_right, F_law_refused_right, F0_law_refused_right, g_law_refused_right, ch_law_refused_right, nP_law_refused_right, hP_law_refused_right⟩ := lf_law_refused_right
    obtain ⟨a_law, d_law, F_law, g_law⟩ : ∃ f fd, L2.Fun _ "law" "law" K12.s_law f fd ∧ mg "law" = some (.ref f) := by
      refine' Mp.fun_get KX G ?a ?l ?c ?k
      (case a => k_is); (case l => k_is); (case c => k_is); (case k => k_is)
    have ea : a_law = fa := Mp.ref_inj (g_law.symm.trans hmg)
    have z_abs : mg "abs" = none := PySem.W.mg_none_of KX G (by k_is)
    have z_all : mg "all" = none := PySem.W.mg_none_of KX G (by k_is)
    have z_bool : mg "bool" = none := PySem.W.mg_none_of KX G (by k_is)
    have z_divmod : mg "divmod" = none := PySem.W.mg_none_of KX G (by k_is)
    have z_int : mg "int" = none := PySem.W.mg_none_of KX G (by k_is)
    have z_isinstance : mg "isinstance" = none := PySem.W.mg_none_of KX G (by k_is)
    have z_len : mg "len" = none := PySem.W.mg_none_of KX G (by k_is)
    have z_max : mg "max" = none := PySem.W.mg_none_of KX G (by k_is)
    have z_min : mg "min" = none := PySem.W.mg_none_of KX G (by k_is)
    have z_range : mg "range" = none := PySem.W.mg_none_of KX G (by k_is)
    have z_repr : mg "repr" = none := PySem.W.mg_none_of KX G (by k_is)
    have z_set : mg "set" = none := PySem.W.mg_none_of KX G (by k_is)
    have z_sorted : mg "sorted" = none := PySem.W.mg_none_of KX G (by k_is)
    have z_tuple : mg "tuple" = none := PySem.W.mg_none_of KX G (by k_is)
    have z_zip : mg "zip" = none := PySem.W.mg_none_of KX G (by k_is)
    have g_LEAST_PLACES : ∃ t, mg "LEAST_PLACES" = some (.int (3) t) := by
      refine' Mp.gint_get KX G ?a
      (case a => k_is)
    have g_MOST : ∃ t, mg "MOST" = some (.int (999) t) := by
      refine' Mp.gint_get KX G ?a
      (case a => k_is)
    have g_MOST_PLACES : ∃ t, mg "MOST_PLACES" = some (.int (24) t) := by
      refine' Mp.gint_get KX G ?a
      (case a => k_is)
    have cfs := Mp.clsPack KX (fun K => ∃ C0 C1 C2 fI0 : Addr, (mg "InvalidPlaces" = some (.ref C0)) ∧ (mg "InvalidSpot" = some (.ref C1)) ∧ (mg "WebError" = some (.ref C2)) ∧ (Mp.ExK K "value" C0) ∧ (Mp.ExK K "value" C1) ∧ (Mp.ExK K "value" C2) ∧ (PySem.W.exmOne K (.ref C0) (.ref C0) = some true ∧ PySem.W.kitOne K (.ref C0) (.ref C0) = some true) ∧ (PySem.W.exmOne K (.ref C0) (.ref C1) = some false ∧ PySem.W.kitOne K (.ref C0) (.ref C1) = some false) ∧ (PySem.W.exmOne K (.ref C0) (.ref C2) = some true ∧ PySem.W.kitOne K (.ref C0) (.ref C2) = some true) ∧ (PySem.W.exmOne K (.ref C1) (.ref C0) = some false ∧ PySem.W.kitOne K (.ref C1) (.ref C0) = some false) ∧ (PySem.W.exmOne K (.ref C1) (.ref C1) = some true ∧ PySem.W.kitOne K (.ref C1) (.ref C1) = some true) ∧ (PySem.W.exmOne K (.ref C1) (.ref C2) = some true ∧ PySem.W.kitOne K (.ref C1) (.ref C2) = some true) ∧ (PySem.W.exmOne K (.ref C2) (.ref C0) = some false ∧ PySem.W.kitOne K (.ref C2) (.ref C0) = some false) ∧ (PySem.W.exmOne K (.ref C2) (.ref C1) = some false ∧ PySem.W.kitOne K (.ref C2) (.ref C1) = some false) ∧ (PySem.W.exmOne K (.ref C2) (.ref C2) = some true ∧ PySem.W.kitOne K (.ref C2) (.ref C2) = some true) ∧ (L2.OexC K C0 ∧ PySem.W.findIn K (.ref C0) "__init__" = some (some (.ref fI0)) ∧ PySem.W.typeIn K (.ref fI0) = some (.type "function") ∧ PySem.W.findIn K (.ref C0) "value" = some none) ∧ (L2.OexC K C1 ∧ PySem.W.findIn K (.ref C1) "__init__" = some (some (.ref fI0)) ∧ PySem.W.typeIn K (.ref fI0) = some (.type "function") ∧ PySem.W.findIn K (.ref C1) "value" = some none) ∧ (Mp.InitK K "value" "value" fI0)) (by
      try dsimp only
      refine' ⟨?vC0, ?vC1, ?vC2, ?vfI0, PySem.W.mg_of KX G ?m0, PySem.W.mg_of KX G ?m1, PySem.W.mg_of KX G ?m2, ⟨⟨?e0a, ?e0b, ?e0c, ?e0d⟩, ?e0e, ?e0f, ?e0g, ?e0h, ?e0i, ?e0j⟩, ⟨⟨?e1a, ?e1b, ?e1c, ?e1d⟩, ?e1e, ?e1f, ?e1g, ?e1h, ?e1i, ?e1j⟩, ⟨⟨?e2a, ?e2b, ?e2c, ?e2d⟩, ?e2e, ?e2f, ?e2g, ?e2h, ?e2i, ?e2j⟩, ⟨?x0_0, ?y0_0⟩, ⟨?x0_1, ?y0_1⟩, ⟨?x0_2, ?y0_2⟩, ⟨?x1_0, ?y1_0⟩, ⟨?x1_1, ?y1_1⟩, ⟨?x1_2, ?y1_2⟩, ⟨?x2_0, ?y2_0⟩, ⟨?x2_1, ?y2_1⟩, ⟨?x2_2, ?y2_2⟩, ⟨Mp.oexC_mk ?o0a ?o0b ?o0c ?o0d ?o0e ?o0f, ?o0g, ?o0h, ?o0i⟩, ⟨Mp.oexC_mk ?o1a ?o1b ?o1c ?o1d ?o1e ?o1f, ?o1g, ?o1h, ?o1i⟩, Mp.initK_dflt (x := "__init__") (qual := "WebError.__init__") (st := (Mp.sAt (Mp.stB (K12.topS 1)) 0)) (d := .non) ?ifI0a ?ifI0b ?ifI0c ?ifI0d ?ifI0e ⟨by kernel_rfl, by kernel_rfl, by kernel_rfl, by decide +kernel, by kernel_rfl, by decide +kernel, by decide +kernel⟩ (by kernel_rfl) (.inl (by kernel_rfl)) (.inl (by kernel_rfl)) (fun T kV doc pm an cdv ct us its h1 h2 => match us, its, h1, h2 with | [_, _], [_], _, _ => ⟨_, rfl, rfl⟩)⟩
      (case m0 => k_is)
      (case m1 => k_is)
      (case m2 => k_is)
      (case o0g => k_is)
      (case o1g => k_is)
      (case e0a => k_is)
      (case e0b => k_is)
      (case e0c => k_is)
      (case e0d => k_is)
      (case e0e => k_is)
      (case e0f => kernel_rfl)
      (case e0g => k_is)
      (case e0h => k_is)
      (case e0i => k_is)
      (case e0j => k_is)
      (case e1a => k_is)
      (case e1b => k_is)
      (case e1c => k_is)
      (case e1d => k_is)
      (case e1e => k_is)
      (case e1f => kernel_rfl)
      (case e1g => k_is)
      (case e1h => k_is)
      (case e1i => k_is)
      (case e1j => k_is)
      (case e2a => k_is)
      (case e2b => k_is)
      (case e2c => k_is)
      (case e2d => k_is)
      (case e2e => k_is)
      (case e2f => kernel_rfl)
      (case e2g => k_is)
      (case e2h => k_is)
      (case e2i => k_is)
      (case e2j => k_is)
      (case x0_0 => kernel_rfl)
      (case y0_0 => kernel_rfl)
      (case x0_1 => kernel_rfl)
      (case y0_1 => kernel_rfl)
      (case x0_2 => kernel_rfl)
      (case y0_2 => kernel_rfl)
      (case x1_0 => kernel_rfl)
      (case y1_0 => kernel_rfl)
      (case x1_1 => kernel_rfl)
      (case y1_1 => kernel_rfl)
      (case x1_2 => kernel_rfl)
      (case y1_2 => kernel_rfl)
      (case x2_0 => kernel_rfl)
      (case y2_0 => kernel_rfl)
      (case x2_1 => kernel_rfl)
      (case y2_1 => kernel_rfl)
      (case x2_2 => kernel_rfl)
      (case y2_2 => kernel_rfl)
      (case o0a => k_is)
      (case o0b => first | k_is | kernel_rfl | decide +kernel)
      (case o0c => k_is)
      (case o0d => k_is)
      (case o0e => k_is)
      (case o0f => k_is)
      (case o0h => k_is)
      (case o0i => k_is)
      (case o1a => k_is)
      (case o1b => first | k_is | kernel_rfl | decide +kernel)
      (case o1c => k_is)
      (case o1d => k_is)
      (case o1e => k_is)
      (case o1f => k_is)
      (case o1h => k_is)
      (case o1i => k_is)
      (case ifI0a => k_is)
      (case ifI0b => k_is)
      (case ifI0c => k_is)
      (case ifI0d => k_is)
      (case ifI0e => rfl))
    try dsimp only at cfs
    obtain ⟨C0, C1, C2, fI0, cf0, cf1, cf2, cf3, cf4, cf5, cf6, cf7, cf8, cf9, cf10, cf11, cf12, cf13, cf14, cf15, cf16, cf17⟩ := cfs
    obtain ⟨lt, hlt⟩ : ∃ lt : Nat → Mp.LamI, lt = fun n => if n = 0 then ⟨(("_law_refused_right" : Str) ++ ".<locals>."), L2.defScope K12.s_law_refused_right, Mp.lamP K12.le_0, Mp.lamBd K12.le_0, Mp.lamSc K12.le_0, C0⟩ else if n = 1 then ⟨(("_law_refused_right" : Str) ++ ".<locals>."), L2.defScope K12.s_law_refused_right, Mp.lamP K12.le_1, Mp.lamBd K12.le_1, Mp.lamSc K12.le_1, C1⟩ else if n = 2 then ⟨(("_law_refused_right" : Str) ++ ".<locals>."), L2.defScope K12.s_law_refused_right, Mp.lamP K12.le_2, Mp.lamBd K12.le_2, Mp.lamSc K12.le_2, C2⟩ else if n = 3 then ⟨(("_law_refused_right" : Str) ++ ".<locals>."), L2.defScope K12.s_law_refused_right, Mp.lamP K12.le_3, Mp.lamBd K12.le_3, Mp.lamSc K12.le_3, 0⟩ else if n = 4 then ⟨(("_law_refused_right" : Str) ++ ".<locals>."), L2.defScope K12.s_law_refused_right, Mp.lamP K12.le_4, Mp.lamBd K12.le_4, Mp.lamSc K12.le_4, 0⟩ else if n = 5 then ⟨(("_law_refused_right" : Str) ++ ".<locals>."), L2.defScope K12.s_law_refused_right, Mp.lamP K12.le_5, Mp.lamBd K12.le_5, Mp.lamSc K12.le_5, 0⟩ else if n = 6 then ⟨(("_law_refused_right" : Str) ++ ".<locals>."), L2.defScope K12.s_law_refused_right, Mp.lamP K12.le_6, Mp.lamBd K12.le_6, Mp.lamSc K12.le_6, 0⟩ else if n = 7 then ⟨(("_law_refused_right" : Str) ++ ".<locals>."), L2.defScope K12.s_law_refused_right, Mp.lamP K12.le_7, Mp.lamBd K12.le_7, Mp.lamSc K12.le_7, 0⟩ else Mp.lam0 := ⟨_, rfl⟩
    have hl0 : lt 0 = ⟨(("_law_refused_right" : Str) ++ ".<locals>."), L2.defScope K12.s_law_refused_right, Mp.lamP K12.le_0, Mp.lamBd K12.le_0, Mp.lamSc K12.le_0, C0⟩ := by rw [hlt]; rfl
    have hl1 : lt 1 = ⟨(("_law_refused_right" : Str) ++ ".<locals>."), L2.defScope K12.s_law_refused_right, Mp.lamP K12.le_1, Mp.lamBd K12.le_1, Mp.lamSc K12.le_1, C1⟩ := by rw [hlt]; rfl
    have hl2 : lt 2 = ⟨(("_law_refused_right" : Str) ++ ".<locals>."), L2.defScope K12.s_law_refused_right, Mp.lamP K12.le_2, Mp.lamBd K12.le_2, Mp.lamSc K12.le_2, C2⟩ := by rw [hlt]; rfl
    have hl3 : lt 3 = ⟨(("_law_refused_right" : Str) ++ ".<locals>."), L2.defScope K12.s_law_refused_right, Mp.lamP K12.le_3, Mp.lamBd K12.le_3, Mp.lamSc K12.le_3, 0⟩ := by rw [hlt]; rfl
    have hl4 : lt 4 = ⟨(("_law_refused_right" : Str) ++ ".<locals>."), L2.defScope K12.s_law_refused_right, Mp.lamP K12.le_4, Mp.lamBd K12.le_4, Mp.lamSc K12.le_4, 0⟩ := by rw [hlt]; rfl
    have hl5 : lt 5 = ⟨(("_law_refused_right" : Str) ++ ".<locals>."), L2.defScope K12.s_law_refused_right, Mp.lamP K12.le_5, Mp.lamBd K12.le_5, Mp.lamSc K12.le_5, 0⟩ := by rw [hlt]; rfl
    have hl6 : lt 6 = ⟨(("_law_refused_right" : Str) ++ ".<locals>."), L2.defScope K12.s_law_refused_right, Mp.lamP K12.le_6, Mp.lamBd K12.le_6, Mp.lamSc K12.le_6, 0⟩ := by rw [hlt]; rfl
    have hl7 : lt 7 = ⟨(("_law_refused_right" : Str) ++ ".<locals>."), L2.defScope K12.s_law_refused_right, Mp.lamP K12.le_7, Mp.lamBd K12.le_7, Mp.lamSc K12.le_7, 0⟩ := by rw [hlt]; rfl
    have hc0 : (lt 0).cls = C0 := by rw [hl0]
    have hc1 : (lt 1).cls = C1 := by rw [hl1]
    have hc2 : (lt 2).cls = C2 := by rw [hl2]
    clear hlt
    let t := ({
      a_is_integer := a_is_integer, d_is_integer := d_is_integer, F_is_integer := F_is_integer, C_is_integer := ⟨g_is_integer, F_is_integer.kp, F_is_integer.binds fun _ _ _ _ _ _ us hl => match us, hl with | [_], _ => rfl⟩,
      a_is_within := a_is_within, d_is_within := d_is_within, F_is_within := F_is_within, C_is_within := ⟨g_is_within, F_is_within.kp, F_is_within.binds fun _ _ _ _ _ _ us hl => match us, hl with | [_, _, _], _ => rfl⟩,
      a_is_row := a_is_row, d_is_row := d_is_row, F_is_row := F_is_row, C_is_row := ⟨g_is_row, F_is_row.kp, F_is_row.binds fun _ _ _ _ _ _ us hl => match us, hl with | [_, _], _ => rfl⟩,
      a_is_spot := a_is_spot, d_is_spot := d_is_spot, F_is_spot := F_is_spot, C_is_spot := ⟨g_is_spot, F_is_spot.kp, F_is_spot.binds fun _ _ _ _ _ _ us hl => match us, hl with | [_], _ => rfl⟩,
      a_want_spot := a_want_spot, d_want_spot := d_want_spot, F_want_spot := F_want_spot, C_want_spot := ⟨g_want_spot, F_want_spot.kp, F_want_spot.binds fun _ _ _ _ _ _ us hl => match us, hl with | [_], _ => rfl⟩,
      a_cross := a_cross, d_cross := d_cross, F_cross := F_cross, C_cross := ⟨g_cross, F_cross.kp, F_cross.binds fun _ _ _ _ _ _ us hl => match us, hl with | [_, _], _ => rfl⟩,
      a_way_of := a_way_of, d_way_of := d_way_of, F_way_of := F_way_of, C_way_of := ⟨g_way_of, F_way_of.kp, F_way_of.binds fun _ _ _ _ _ _ us hl => match us, hl with | [_, _], _ => rfl⟩,
      a_turn_of := a_turn_of, d_turn_of := d_turn_of, F_turn_of := F_turn_of, C_turn_of := ⟨g_turn_of, F_turn_of.kp, F_turn_of.binds fun _ _ _ _ _ _ us hl => match us, hl with | [_, _, _], _ => rfl⟩,
      a_are_spots := a_are_spots, d_are_spots := d_are_spots, F_are_spots := F_are_spots, C_are_spots := ⟨g_are_spots, F_are_spots.kp, F_are_spots.binds fun _ _ _ _ _ _ us hl => match us, hl with | [_], _ => rfl⟩,
      a_want_spots := a_want_spots, d_want_spots := d_want_spots, F_want_spots := F_want_spots, C_want_spots := ⟨g_want_spots, F_want_spots.kp, F_want_spots.binds fun _ _ _ _ _ _ us hl => match us, hl with | [_], _ => rfl⟩,
      a_dot := a_dot, d_dot := d_dot, F_dot := F_dot, C_dot := ⟨g_dot, F_dot.kp, F_dot.binds fun _ _ _ _ _ _ us hl => match us, hl with | [_, _], _ => rfl⟩,
      a_is_between := a_is_between, d_is_between := d_is_between, F_is_between := F_is_between, C_is_between := ⟨g_is_between, F_is_between.kp, F_is_between.binds fun _ _ _ _ _ _ us hl => match us, hl with | [_, _, _], _ => rfl⟩,
      a_is_beside := a_is_beside, d_is_beside := d_is_beside, F_is_beside := F_is_beside, C_is_beside := ⟨g_is_beside, F_is_beside.kp, F_is_beside.binds fun _ _ _ _ _ _ us hl => match us, hl with | [_, _, _, _], _ => rfl⟩,
      a_do_meet := a_do_meet, d_do_meet := d_do_meet, F_do_meet := F_do_meet, C_do_meet := ⟨g_do_meet, F_do_meet.kp, F_do_meet.binds fun _ _ _ _ _ _ us hl => match us, hl with | [_, _, _, _], _ => rfl⟩,
      a_chain_of := a_chain_of, d_chain_of := d_chain_of, F_chain_of := F_chain_of, C_chain_of := ⟨g_chain_of, F_chain_of.kp, F_chain_of.binds fun _ _ _ _ _ _ us hl => match us, hl with | [_], _ => rfl⟩,
      a_hull_ring := a_hull_ring, d_hull_ring := d_hull_ring, F_hull_ring := F_hull_ring, C_hull_ring := ⟨g_hull_ring, F_hull_ring.kp, F_hull_ring.binds fun _ _ _ _ _ _ us hl => match us, hl with | [_], _ => rfl⟩,
      a_turn := a_turn, d_turn := d_turn, F_turn := F_turn, C_turn := ⟨g_turn, F_turn.kp, F_turn.binds fun _ _ _ _ _ _ us hl => match us, hl with | [_, _, _], _ => rfl⟩,
      a_hull := a_hull, d_hull := d_hull, F_hull := F_hull, C_hull := ⟨g_hull, F_hull.kp, F_hull.binds fun _ _ _ _ _ _ us hl => match us, hl with | [_], _ => rfl⟩,
      a_have_common := a_have_common, d_have_common := d_have_common, F_have_common := F_have_common, C_have_common := ⟨g_have_common, F_have_common.kp, F_have_common.binds fun _ _ _ _ _ _ us hl => match us, hl with | [_, _, _, _], _ => rfl⟩,
      a_law_pot := a_law_pot, d_law_pot := d_law_pot, F_law_pot := F_law_pot, C_law_pot := ⟨g_law_pot, F_law_pot.kp, F_law_pot.binds fun _ _ _ _ _ _ us hl => match us, hl with | [_, _], _ => rfl⟩,
      a_law_draw := a_law_draw, d_law_draw := d_law_draw, F_law_draw := F_law_draw, C_law_draw := ⟨g_law_draw, F_law_draw.kp, F_law_draw.binds fun _ _ _ _ _ _ us hl => match us, hl with | [_, _], _ => rfl⟩,
      a_law_pick := a_law_pick, d_law_pick := d_law_pick, F_law_pick := F_law_pick, C_law_pick := ⟨g_law_pick, F_law_pick.kp, F_law_pick.binds fun _ _ _ _ _ _ us hl => match us, hl with | [_, _], _ => rfl⟩,
      a_law_turn := a_law_turn, d_law_turn := d_law_turn, F_law_turn := F_law_turn, C_law_turn := ⟨g_law_turn, F_law_turn.kp, F_law_turn.binds fun _ _ _ _ _ _ us hl => match us, hl with | [_, _, _], _ => rfl⟩,
      a_law_on := a_law_on, d_law_on := d_law_on, F_law_on := F_law_on, C_law_on := ⟨g_law_on, F_law_on.kp, F_law_on.binds fun _ _ _ _ _ _ us hl => match us, hl with | [_, _, _], _ => rfl⟩,
      a_law_spots := a_law_spots, d_law_spots := d_law_spots, F_law_spots := F_law_spots, C_law_spots := ⟨g_law_spots, F_law_spots.kp, F_law_spots.binds fun _ _ _ _ _ _ us hl => match us, hl with | [_, _, _], _ => rfl⟩,
      a_law_is_held := a_law_is_held, d_law_is_held := d_law_is_held, F_law_is_held := F_law_is_held, C_law_is_held := ⟨g_law_is_held, F_law_is_held.kp, F_law_is_held.binds fun _ _ _ _ _ _ us hl => match us, hl with | [_, _], _ => rfl⟩,
      a_law_hull_right := a_law_hull_right, d_law_hull_right := d_law_hull_right, F_law_hull_right := F_law_hull_right, C_law_hull_right := ⟨g_law_hull_right, F_law_hull_right.kp, F_law_hull_right.binds fun _ _ _ _ _ _ us hl => match us, hl with | [_], _ => rfl⟩,
      a_law_common := a_law_common, d_law_common := d_law_common, F_law_common := F_law_common, C_law_common := ⟨g_law_common, F_law_common.kp, F_law_common.binds fun _ _ _ _ _ _ us hl => match us, hl with | [_, _, _, _], _ => rfl⟩,
      a_law_four := a_law_four, d_law_four := d_law_four, F_law_four := F_law_four, C_law_four := ⟨g_law_four, F_law_four.kp, F_law_four.binds fun _ _ _ _ _ _ us hl => match us, hl with | [_], _ => rfl⟩,
      a_law_lines_right := a_law_lines_right, d_law_lines_right := d_law_lines_right, F_law_lines_right := F_law_lines_right, C_law_lines_right := ⟨g_law_lines_right, F_law_lines_right.kp, F_law_lines_right.binds fun _ _ _ _ _ _ us hl => match us, hl with | [_], _ => rfl⟩,
      a_law_heard := a_law_heard, d_law_heard := d_law_heard, F_law_heard := F_law_heard, C_law_heard := ⟨g_law_heard, F_law_heard.kp, F_law_heard.binds fun _ _ _ _ _ _ us hl => match us, hl with | [_], _ => rfl⟩,
      a_law_refused_right := a_law_refused_right, d_law_refused_right := d_law_refused_right, c_law_refused_right := c_law_refused_right, P_law_refused_right := P_law_refused_right, F_law_refused_right := F_law_refused_right, C_law_refused_right := ⟨g_law_refused_right, F0_law_refused_right.kp, F0_law_refused_right.binds fun _ _ _ _ _ _ us hl => match us, hl with | [_], _ => rfl⟩,
      a_law := a_law, d_law := d_law, F_law := F_law, C_law := ⟨g_law, F_law.kp, F_law.binds fun _ _ _ _ _ _ us hl => match us, hl with | [_], _ => rfl⟩,
      kb_hull_0_places := Mp.kb_mk F_hull fun _ _ _ _ _ _ us ws h1 h2 => match us, ws, h1, h2 with | [], [_], _, _ => rfl,
      kb_turn_0_third_spot_second_spot_spot := Mp.kb_mk F_turn fun _ _ _ _ _ _ us ws h1 h2 => match us, ws, h1, h2 with | [], [_, _, _], _, _ => rfl,
      kb_have_common_0_fourth_spot_third_spot_second_spot_spot := Mp.kb_mk F_have_common fun _ _ _ _ _ _ us ws h1 h2 => match us, ws, h1, h2 with | [], [_, _, _, _], _, _ => rfl,
      l_0 := by rw [hl0]; exact ⟨rfl, rfl, rfl, rfl, rfl⟩,
      l_1 := by rw [hl1]; exact ⟨rfl, rfl, rfl, rfl, rfl⟩,
      l_2 := by rw [hl2]; exact ⟨rfl, rfl, rfl, rfl, rfl⟩,
      l_3 := by rw [hl3]; exact ⟨rfl, rfl, rfl, rfl, rfl⟩,
      l_4 := by rw [hl4]; exact ⟨rfl, rfl, rfl, rfl, rfl⟩,
      l_5 := by rw [hl5]; exact ⟨rfl, rfl, rfl, rfl, rfl⟩,
      l_6 := by rw [hl6]; exact ⟨rfl, rfl, rfl, rfl, rfl⟩,
      l_7 := by rw [hl7]; exact ⟨rfl, rfl, rfl, rfl, rfl⟩,
      sub := ⟨(by
        intro j i b h; unfold K12.isub at h
        by_cases e0_0 : j = 0 ∧ i = 0
        · rw [if_pos e0_0] at h; obtain ⟨e1, e2⟩ := e0_0; subst e1 e2; cases h; rw [hc0]; exact cf6.1
        rw [if_neg e0_0] at h
        by_cases e0_1 : j = 0 ∧ i = 1
        · rw [if_pos e0_1] at h; obtain ⟨e1, e2⟩ := e0_1; subst e1 e2; cases h; rw [hc0, hc1]; exact cf7.1
        rw [if_neg e0_1] at h
        by_cases e0_2 : j = 0 ∧ i = 2
        · rw [if_pos e0_2] at h; obtain ⟨e1, e2⟩ := e0_2; subst e1 e2; cases h; rw [hc0, hc2]; exact cf8.1
        rw [if_neg e0_2] at h
        by_cases e1_0 : j = 1 ∧ i = 0
        · rw [if_pos e1_0] at h; obtain ⟨e1, e2⟩ := e1_0; subst e1 e2; cases h; rw [hc1, hc0]; exact cf9.1
        rw [if_neg e1_0] at h
        by_cases e1_1 : j = 1 ∧ i = 1
        · rw [if_pos e1_1] at h; obtain ⟨e1, e2⟩ := e1_1; subst e1 e2; cases h; rw [hc1]; exact cf10.1
        rw [if_neg e1_1] at h
        by_cases e1_2 : j = 1 ∧ i = 2
        · rw [if_pos e1_2] at h; obtain ⟨e1, e2⟩ := e1_2; subst e1 e2; cases h; rw [hc1, hc2]; exact cf11.1
        rw [if_neg e1_2] at h
        by_cases e2_0 : j = 2 ∧ i = 0
        · rw [if_pos e2_0] at h; obtain ⟨e1, e2⟩ := e2_0; subst e1 e2; cases h; rw [hc2, hc0]; exact cf12.1
        rw [if_neg e2_0] at h
        by_cases e2_1 : j = 2 ∧ i = 1
        · rw [if_pos e2_1] at h; obtain ⟨e1, e2⟩ := e2_1; subst e1 e2; cases h; rw [hc2, hc1]; exact cf13.1
        rw [if_neg e2_1] at h
        by_cases e2_2 : j = 2 ∧ i = 2
        · rw [if_pos e2_2] at h; obtain ⟨e1, e2⟩ := e2_2; subst e1 e2; cases h; rw [hc2]; exact cf14.1
        rw [if_neg e2_2] at h
        cases h), (by
        intro j i b h; unfold K12.isub at h
        by_cases e0_0 : j = 0 ∧ i = 0
        · rw [if_pos e0_0] at h; obtain ⟨e1, e2⟩ := e0_0; subst e1 e2; cases h; rw [hc0]; exact cf6.2
        rw [if_neg e0_0] at h
        by_cases e0_1 : j = 0 ∧ i = 1
        · rw [if_pos e0_1] at h; obtain ⟨e1, e2⟩ := e0_1; subst e1 e2; cases h; rw [hc0, hc1]; exact cf7.2
        rw [if_neg e0_1] at h
        by_cases e0_2 : j = 0 ∧ i = 2
        · rw [if_pos e0_2] at h; obtain ⟨e1, e2⟩ := e0_2; subst e1 e2; cases h; rw [hc0, hc2]; exact cf8.2
        rw [if_neg e0_2] at h
        by_cases e1_0 : j = 1 ∧ i = 0
        · rw [if_pos e1_0] at h; obtain ⟨e1, e2⟩ := e1_0; subst e1 e2; cases h; rw [hc1, hc0]; exact cf9.2
        rw [if_neg e1_0] at h
        by_cases e1_1 : j = 1 ∧ i = 1
        · rw [if_pos e1_1] at h; obtain ⟨e1, e2⟩ := e1_1; subst e1 e2; cases h; rw [hc1]; exact cf10.2
        rw [if_neg e1_1] at h
        by_cases e1_2 : j = 1 ∧ i = 2
        · rw [if_pos e1_2] at h; obtain ⟨e1, e2⟩ := e1_2; subst e1 e2; cases h; rw [hc1, hc2]; exact cf11.2
        rw [if_neg e1_2] at h
        by_cases e2_0 : j = 2 ∧ i = 0
        · rw [if_pos e2_0] at h; obtain ⟨e1, e2⟩ := e2_0; subst e1 e2; cases h; rw [hc2, hc0]; exact cf12.2
        rw [if_neg e2_0] at h
        by_cases e2_1 : j = 2 ∧ i = 1
        · rw [if_pos e2_1] at h; obtain ⟨e1, e2⟩ := e2_1; subst e1 e2; cases h; rw [hc2, hc1]; exact cf13.2
        rw [if_neg e2_1] at h
        by_cases e2_2 : j = 2 ∧ i = 2
        · rw [if_pos e2_2] at h; obtain ⟨e1, e2⟩ := e2_2; subst e1 e2; cases h; rw [hc2]; exact cf14.2
        rw [if_neg e2_2] at h
        cases h)⟩,
      x_InvalidPlaces := by rw [hc0]; exact cf0,
      x_InvalidSpot := by rw [hc1]; exact cf1,
      x_WebError := by rw [hc2]; exact cf2,
      ex := fun j hj => by
        match j, hj with
        | 0, _ => rw [hc0]; exact cf3
        | 1, _ => rw [hc1]; exact cf4
        | 2, _ => rw [hc2]; exact cf5
        | n + 3, hj => omega,
      i_InvalidPlaces := fI0, r_InvalidPlaces := by rw [hc0]; exact ⟨cf15.1, cf15.2.1, cf15.2.2.1, cf15.2.2.2, cf0, cf17⟩,
      i_InvalidSpot := fI0, r_InvalidSpot := by rw [hc1]; exact ⟨cf16.1, cf16.2.1, cf16.2.2.1, cf16.2.2.2, cf1, cf17⟩,
      z_abs := z_abs,
      z_all := z_all,
      z_bool := z_bool,
      z_divmod := z_divmod,
      z_int := z_int,
      z_isinstance := z_isinstance,
      z_len := z_len,
      z_max := z_max,
      z_min := z_min,
      z_range := z_range,
      z_repr := z_repr,
      z_set := z_set,
      z_sorted := z_sorted,
      z_tuple := z_tuple,
      z_zip := z_zip,
      g_LEAST_PLACES := g_LEAST_PLACES,
      g_MOST := g_MOST,
      g_MOST_PLACES := g_MOST_PLACES } : K12.Tx _ mg lt)
    refine ⟨d_law, [(c_law_refused_right, P_law_refused_right)], lt, [(P_law_refused_right, (("_law_refused_right" : Str) ++ ".<locals>.") ++ "<lambda>")], K12.f_law, List.forall_mem_cons.mpr ⟨hP_law_refused_right, fun _ h => absurd h (by simp)⟩, List.forall_mem_cons.mpr ⟨nP_law_refused_right, fun _ h => absurd h (by simp)⟩, List.forall_mem_cons.mpr ⟨ch_law_refused_right, fun _ h => absurd h (by simp)⟩, List.forall_mem_cons.mpr ⟨by simp, fun _ h => absurd h (by simp)⟩, ?_, K12.plain, fun base _ _ TB => ?_⟩
    · obtain ⟨oc, od, kV, doc, pm, an, cdv, ct, osl, e, _⟩ := F_law.ex
      subst e
      exact fun s u => .of_eq rfl
    · rw [← ea]
      exact K12.ok_law t ⟨TB (c_law_refused_right, P_law_refused_right) (by simp), List.mem_singleton.mpr rfl, fun q hq _ => by have e := List.mem_singleton.mp hq; subst e; rfl⟩

