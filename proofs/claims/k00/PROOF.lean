import PyProof.Rows.All
import HandS.ForMost
import HandS.Exc
import HandS.ExcInit
import HandS.Lambda
import KE.DataEq
import HandS.Iter
import HandS.Walk
import HandS.WordsExc
import HandS.TupAny
import HandS.TupMul
import HandS.Wide
import HandS.WideBits
import HandS.TupLe
import HandS.Deep
import KE.SortData
import HandS.Style
import HandS.IsInst
import HandS.ExcField
import HandS.ExcIs
import KE.KExcIs
import KE.KExcSuper
import HandS.Nested
import HandS.Small
import HandS.Conv
import PyProof.ReprRoads
import HandS.Sort
import HandS.Defaults
import HandS.Head0
import HandS.HeadHook1
import HandS.HeadHook2
import HandS.Head2
import HandS.EndTab
import PySem.Challenge.RW_cameandleft_k00_each_error_by_itself
set_option Elab.async false
set_option linter.all false
set_option maxRecDepth 100000
/-! PyI: plain data, and how a value of the layer bears it. -/
namespace PyI
open PySem PySem.Spec L2
set_option autoImplicit false

/-- plain data -/
inductive D where
  | non | bl (b : Bool) | int (i : Int) | str (x : Str)
  | tup (xs : List D) | lst (xs : List D) | dct (t : Nat) (ks vs : List D)
  | ins (c : Nat) (fs : List D)
  | exc (c : Nat) (v : D)
  | clo (n : Nat) (cap : List D)
  | scr (ns : List Int)
  deriving Inhabited

/-- a mutable thing that one name owns -/
inductive Ob where
  | lst (xs : List D)
  | dct (t : Nat) (kvs : List (D × D))
  | mat (rows : List (List D))
  deriving Inhabited

/-- a frame's slot -/
inductive Sl where
  | un | d (x : D) | own (o : Ob)
  deriving Inhabited

def Ob.fz : Ob → D
  | .lst xs => .lst xs
  | .dct t kvs => .dct t (kvs.map (·.1)) (kvs.map (·.2))
  | .mat rows => .lst (rows.map .lst)

/-- an expression's value: data, or a new thing that nobody holds -/
inductive EV where
  | val (d : D) | new (o : Ob)
  deriving Inhabited
def EV.fz : EV → D
  | .val d => d
  | .new o => o.fz

/-- how it ends -/
inductive Out (α : Type) where
  | ok (a : α) (env : List Sl)
  | exc (c : Nat) (v : D) (env : List Sl)
  | bad
  deriving Inhabited

/-! ### data without objects -/
mutual
def D.py : D → Option PyData
  | .non => some .none
  | .bl b => some (.bool b)
  | .int i => some (.int i)
  | .str x => some (.str x)
  | .tup xs => (D.pys xs).map .tuple
  | .lst xs => (D.pys xs).map .list
  | _ => none
def D.pys : List D → Option (List PyData)
  | [] => some []
  | x :: xs => (D.py x).bind fun a => (D.pys xs).map fun r => a :: r
end

/-- a dict's key -/
def keyD : Key → D
  | .inl i => .int i
  | .inr x => .str x
def tkeyD (ks : List Key) : D := .tup (ks.map keyD)

/-! ### how a value bears data -/
/-- a lambda's words -/
structure LF where
  qual : Str
  params : Arguments
  body : Expr
  scope : Scope
structure Glo where
  K : PySem.W.Frag
  cls : Nat → Option Addr
  nms : Nat → List Str
  lam : Nat → Option LF
  tabs : List (Addr × Str)

/-- a lambda's object, with the cells that it captured -/
def LamO (f : Addr) (L : LF) (cl : List (Str × Addr)) (c' : Addr) : HO := .ext fun h => ∃ (pm ctv : Value), h.get? f = some (PySem.W.kla_obj "<lambda>" L.qual L.params L.body L.scope cl pm c' ctv)

/-- a dict that stands frozen -/
def DFz (F : Hp) (a : Addr) (t : Nat) (ks : List D) (vs : List V) : Prop :=
  (t = 0 ∧ ∃ od l, F a = some (.frz od (.dK l)) ∧ ks = l.map (fun p => keyD p.1) ∧ vs = l.map (·.2)) ∨
  (t = 1 ∧ ∃ od l, F a = some (.frz od (.dT l)) ∧ ks = l.map (fun p => tkeyD p.1) ∧ vs = l.map (·.2))

mutual
def Rep (G : Glo) (F : Hp) : D → V → Prop
  | .non, v => v = .non
  | .bl b, v => v = .bl b
  | .int i, v => v = .int i
  | .str x, v => v = .str x
  | .tup xs, v => ∃ a vs, v = .ref a ∧ F a = some (.tup vs) ∧ RepL G F xs vs
  | .lst xs, v => ∃ a vs, v = .ref a ∧ F a = some (.lst vs) ∧ RepL G F xs vs
  | .dct t ks xs, v => ∃ a vs, v = .ref a ∧ DFz F a t ks vs ∧ RepL G F xs vs
  | .ins c fs, v => ∃ b C dx vs, v = .ref b ∧ G.cls c = some C ∧ F b = some (.ins C dx ((G.nms c).zip vs)) ∧ (G.nms c).length = vs.length ∧ RepL G F fs vs
  | .exc c x, v => ∃ a d C w, v = .ref a ∧ G.cls c = some C ∧ F a = some (exo a C (some d)) ∧ F d = some (exd d [("value", w)]) ∧ Rep G F x w
  | .clo n cap, v => cap = [] ∧ ∃ f c' L, v = .ref f ∧ G.lam n = some L ∧ F f = some (LamO f L [] c') ∧ F c' = some (LamX.CodeO c' L.qual)
  | .scr ns, v => ∃ a, v = .ref a ∧ SqL G.K F a (ns.map V.int)
def RepL (G : Glo) (F : Hp) : List D → List V → Prop
  | [], vs => vs = []
  | x :: xs, vs => ∃ v r, vs = v :: r ∧ Rep G F x v ∧ RepL G F xs r
end

theorem same_sqT {K : PySem.W.Frag} {H H' : Hp} {a : Addr} {xs : List V} (e : Same H H') (h : SqT K H a xs) : SqT K H' a xs := by
  rcases h with (h | ⟨o, h⟩) | h
  · exact .inl (.inl (e _ _ h))
  · exact .inl (.inr ⟨o, e _ _ h⟩)
  · exact .inr h
theorem DFz.mono {F F' : Hp} {a : Addr} {t : Nat} {ks : List D} {vs : List V} (e : Same F F') (h : DFz F a t ks vs) : DFz F' a t ks vs := by
  rcases h with ⟨z, od, l, h1, h2⟩ | ⟨z, od, l, h1, h2⟩
  · exact .inl ⟨z, od, l, e _ _ h1, h2⟩
  · exact .inr ⟨z, od, l, e _ _ h1, h2⟩
mutual
theorem Rep.mono {G : Glo} {F F' : Hp} (e : Same F F') : ∀ (d : D) (v : V), Rep G F d v → Rep G F' d v
  | .non, _, h => h
  | .bl _, _, h => h
  | .int _, _, h => h
  | .str _, _, h => h
  | .tup xs, v, h => by
    unfold Rep at h ⊢
    obtain ⟨a, vs, h1, h2, h3⟩ := h
    exact ⟨a, vs, h1, e _ _ h2, RepL.mono e xs vs h3⟩
  | .lst xs, v, h => by
    unfold Rep at h ⊢
    obtain ⟨a, vs, h1, h2, h3⟩ := h
    exact ⟨a, vs, h1, e _ _ h2, RepL.mono e xs vs h3⟩
  | .dct t ks xs, v, h => by
    unfold Rep at h ⊢
    obtain ⟨a, vs, h1, h2, h3⟩ := h
    exact ⟨a, vs, h1, h2.mono e, RepL.mono e xs vs h3⟩
  | .ins c fs, v, h => by
    unfold Rep at h ⊢
    obtain ⟨b, C, dx, vs, h1, h2, h3, h4, h5⟩ := h
    exact ⟨b, C, dx, vs, h1, h2, e _ _ h3, h4, RepL.mono e fs vs h5⟩
  | .exc c x, v, h => by
    unfold Rep at h ⊢
    obtain ⟨a, d, C, w, h1, h2, h3, h4, h5⟩ := h
    exact ⟨a, d, C, w, h1, h2, e _ _ h3, e _ _ h4, Rep.mono e x w h5⟩
  | .clo n cap, v, h => by
    unfold Rep at h ⊢
    obtain ⟨h0, f, c', L, h1, h2, h3, h4⟩ := h
    exact ⟨h0, f, c', L, h1, h2, e _ _ h3, e _ _ h4⟩
  | .scr ns, v, h => by
    unfold Rep at h ⊢
    obtain ⟨a, h1, h2⟩ := h
    exact ⟨a, h1, e.seq h2⟩
theorem RepL.mono {G : Glo} {F F' : Hp} (e : Same F F') : ∀ (xs : List D) (vs : List V), RepL G F xs vs → RepL G F' xs vs
  | [], _, h => h
  | x :: xs, vs, h => by
    unfold RepL at h ⊢
    obtain ⟨v, r, h1, h2, h3⟩ := h
    exact ⟨v, r, h1, Rep.mono e x v h2, RepL.mono e xs r h3⟩
end
theorem RepL.length {G : Glo} {F : Hp} : ∀ {xs : List D} {vs : List V}, RepL G F xs vs → xs.length = vs.length
  | [], vs, h => by
    unfold RepL at h; subst h; rfl
  | x :: xs, vs, h => by
    unfold RepL at h
    obtain ⟨v, r, rfl, _, h3⟩ := h
    simp [RepL.length h3]
theorem RepL.get {G : Glo} {F : Hp} : ∀ {xs : List D} {vs : List V} {i : Nat} {x : D}, RepL G F xs vs → xs[i]? = some x → ∃ v, vs[i]? = some v ∧ Rep G F x v
  | [], _, _, _, _, e => by simp at e
  | x :: xs, vs, 0, y, h, e => by
    unfold RepL at h
    obtain ⟨v, r, rfl, h2, h3⟩ := h
    simp at e; subst e
    exact ⟨v, rfl, h2⟩
  | x :: xs, vs, i + 1, y, h, e => by
    unfold RepL at h
    obtain ⟨v, r, rfl, h2, h3⟩ := h
    obtain ⟨u, h4, h5⟩ := RepL.get (i := i) (x := y) h3 (by simpa using e)
    exact ⟨u, by simpa using h4, h5⟩
theorem RepL.append {G : Glo} {F : Hp} : ∀ {xs ys : List D} {vs ws : List V}, RepL G F xs vs → RepL G F ys ws → RepL G F (xs ++ ys) (vs ++ ws)
  | [], ys, vs, ws, h, h' => by unfold RepL at h; subst h; exact h'
  | x :: xs, ys, vs, ws, h, h' => by
    unfold RepL at h
    obtain ⟨v, r, rfl, h2, h3⟩ := h
    show RepL G F (x :: (xs ++ ys)) (v :: (r ++ ws))
    unfold RepL
    exact ⟨v, _, rfl, h2, RepL.append h3 h'⟩
theorem RepL.nil {G : Glo} {F : Hp} : RepL G F [] [] := by unfold RepL; rfl
theorem RepL.cons {G : Glo} {F : Hp} {x : D} {xs : List D} {v : V} {vs : List V} (h : Rep G F x v) (h' : RepL G F xs vs) : RepL G F (x :: xs) (v :: vs) := by
  unfold RepL; exact ⟨v, vs, rfl, h, h'⟩
end PyI

set_option Elab.async false
set_option linter.all false
set_option maxRecDepth 100000
/-! PyI: ownership, steps, readings. -/
namespace PyI
open PySem PySem.Spec L2
set_option autoImplicit false

def DOw (H : Hp) (a : Addr) (t : Nat) (ks : List D) (vs : List V) : Prop :=
  (t = 0 ∧ ∃ l, H a = some (.dK l) ∧ ks = l.map (fun p => keyD p.1) ∧ vs = l.map (·.2)) ∨
  (t = 1 ∧ ∃ l, H a = some (.dT l) ∧ ks = l.map (fun p => tkeyD p.1) ∧ vs = l.map (·.2))
def RepM (G : Glo) (F H : Hp) : List (List D) → List Addr → Prop
  | [], bs => bs = []
  | r :: rs, bs => ∃ b t vs, bs = b :: t ∧ H b = some (.lst vs) ∧ RepL G F r vs ∧ RepM G F H rs t
def ObRep (G : Glo) (F H : Hp) : Ob → V → List Addr → Prop
  | .lst xs, v, as => ∃ a vs, v = .ref a ∧ as = [a] ∧ H a = some (.lst vs) ∧ RepL G F xs vs
  | .dct t kvs, v, as => ∃ a vs, v = .ref a ∧ as = [a] ∧ DOw H a t (kvs.map (·.1)) vs ∧ RepL G F (kvs.map (·.2)) vs
  | .mat rows, v, as => ∃ a bs, v = .ref a ∧ as = a :: bs ∧ H a = some (.lst (bs.map .ref)) ∧ RepM G F H rows bs
def SlRep (G : Glo) (F H : Hp) : Sl → Option (Option V) → List Addr → Prop
  | .un, _, as => as = []
  | .d x, ov, as => as = [] ∧ ∃ v, ov = some (some v) ∧ Rep G F x v
  | .own o, ov, as => ∃ v, ov = some (some v) ∧ ObRep G F H o v as

/-- a table of code objects -/
def Tb (o : HO) : Prop := ∃ ps, o = .tbl ps
/-- what is owned is one of these -/
def Ow (o : HO) : Prop := (∃ l, o = .lst l) ∨ (∃ l, o = .dK l) ∨ ∃ l, o = .dT l
/-- what may be frozen at any time: no one owns it, it is no table -/
def Ex (o : HO) : Prop := ¬ Ow o ∧ ¬ Tb o
theorem ex_ext {φ : Heap → Prop} : Ex (.ext φ) := ⟨fun h => (by rcases h with ⟨l, h⟩ | ⟨l, h⟩ | ⟨l, h⟩ <;> cases h), fun ⟨ps, h⟩ => (by cases h)⟩
theorem ex_tup {xs : List V} : Ex (.tup xs) := ⟨fun h => (by rcases h with ⟨l, h⟩ | ⟨l, h⟩ | ⟨l, h⟩ <;> cases h), fun ⟨ps, h⟩ => (by cases h)⟩
theorem Ow.nex {o : HO} (h : Ow o) : ¬ Ex o := fun e => e.1 h
theorem Ow.ntb {o : HO} (h : Ow o) : ¬ Tb o := fun ⟨φ, e⟩ => by
  subst e
  rcases h with ⟨l, h⟩ | ⟨l, h⟩ | ⟨l, h⟩ <;> cases h
/-- the tables of code objects stand, thawed -/
def TabG (G : Glo) (F H : Hp) : Prop := LamX.Tabs G.tabs H ∧ ∀ p ∈ G.tabs, F p.1 = none
structure ER (G : Glo) (F H : Hp) (env : List Sl) (σ : St) (own : Nat → List Addr) : Prop where
  len : env.length = σ.length
  rep : ∀ i s, env[i]? = some s → SlRep G F H s σ[i]? (own i)
  out : ∀ i, env.length ≤ i → own i = []
  sep : ∀ i j a, a ∈ own i → a ∈ own j → i = j
  nd : ∀ i, (own i).Nodup
  off : ∀ i a, a ∈ own i → F a = none
  tab : TabG G F H
abbrev Inn (own : Nat → List Addr) (a : Addr) : Prop := ∃ i, a ∈ own i

structure Step (F H : Hp) (A : Addr → Prop) (F' H' : Hp) (A' : Addr → Prop) : Prop where
  fz : Same F F'
  sub : Same F' H'
  fr : ∀ a o, H a = some o → ¬ A a → H' a = some o ∨ (Tb o ∧ ∃ ps, H' a = some (.tbl ps))
  new : ∀ a o, F' a = some o → F a = some o ∨ A a ∨ H a = none ∨ Ex o
  own : ∀ a, A' a → A a ∨ H a = none
theorem Step.refl {F H : Hp} {A : Addr → Prop} (h : Same F H) : Step F H A F H A :=
  ⟨Same.refl F, h, fun _ _ e _ => .inl e, fun _ _ e => .inl e, fun _ e => .inl e⟩
theorem Step.keeps {F H F' H' : Hp} {A A' : Addr → Prop} (x : Step F H A F' H' A') {a : Addr} {o : HO} (h : H a = some o) (n : ¬ A a) : ∃ u, H' a = some u := by
  rcases x.fr a o h n with q | ⟨_, ps, q⟩
  · exact ⟨_, q⟩
  · exact ⟨_, q⟩
theorem Step.stay {F H F' H' : Hp} {A A' : Addr → Prop} (x : Step F H A F' H' A') {a : Addr} {o : HO} (h : H a = some o) (n : ¬ A a) (t : ¬ Tb o) : H' a = some o := by
  rcases x.fr a o h n with q | ⟨q, _⟩
  · exact q
  · exact absurd q t
/-- what is another's stays thawed -/
theorem Step.thaw {F H F' H' : Hp} {A A' : Addr → Prop} (x : Step F H A F' H' A') {a : Addr} {o : HO} (h : H a = some o) (ow : Ow o) (f : F a = none) (n : ¬ A a) : F' a = none := by
  cases q : F' a with
  | none => rfl
  | some u =>
    rcases x.new a u q with y | y | y | y
    · rw [f] at y; cases y
    · exact absurd y n
    · rw [h] at y; cases y
    · have e := x.sub a u q
      rw [x.stay h n ow.ntb] at e
      cases e
      exact absurd y ow.nex
theorem Step.trans {F H F1 H1 F2 H2 : Hp} {A A1 A2 : Addr → Prop} (x : Step F H A F1 H1 A1) (y : Step F1 H1 A1 F2 H2 A2) : Step F H A F2 H2 A2 where
  fz := x.fz.trans y.fz
  sub := y.sub
  fr := fun a o e n => by
    have na : ¬ A1 a := fun z => by
      rcases x.own a z with q | q
      · exact n q
      · rw [e] at q; cases q
    rcases x.fr a o e n with q | ⟨q, ps, q2⟩
    · exact y.fr a o q na
    · rcases y.fr a _ q2 na with r | ⟨_, r⟩
      · exact .inr ⟨q, _, r⟩
      · exact .inr ⟨q, r⟩
  new := fun a o e => by
    rcases y.new a o e with q | q | q | q
    · exact x.new a o q
    · rcases x.own a q with r | r
      · exact .inr (.inl r)
      · exact .inr (.inr (.inl r))
    · by_cases n : A a
      · exact .inr (.inl n)
      · cases h : H a with
        | none => exact .inr (.inr (.inl rfl))
        | some u =>
          obtain ⟨w, z⟩ := x.keeps h n
          rw [z] at q; cases q
    · exact .inr (.inr (.inr q))
  own := fun a e => by
    rcases y.own a e with q | q
    · exact x.own a q
    · by_cases n : A a
      · exact .inl n
      · cases h : H a with
        | none => exact .inr rfl
        | some u =>
          obtain ⟨w, z⟩ := x.keeps h n
          rw [z] at q; cases q

/-! ### what stays -/
theorem RepM.keep {G : Glo} {F F' H H' : Hp} (e : Same F F') : ∀ {rows : List (List D)} {bs : List Addr}, (∀ b ∈ bs, ∀ o, H b = some o → H' b = some o) → RepM G F H rows bs → RepM G F' H' rows bs
  | [], bs, _, h => h
  | r :: rs, bs, k, h => by
    unfold RepM at h ⊢
    obtain ⟨b, t, vs, rfl, h1, h2, h3⟩ := h
    exact ⟨b, t, vs, rfl, k b (by simp) _ h1, RepL.mono e _ _ h2, RepM.keep e (fun c hc => k c (by simp [hc])) h3⟩
theorem ObRep.keep {G : Glo} {F F' H H' : Hp} (e : Same F F') {o : Ob} {v : V} {as : List Addr} (k : ∀ a ∈ as, ∀ o, H a = some o → H' a = some o) (h : ObRep G F H o v as) : ObRep G F' H' o v as := by
  cases o with
  | lst xs =>
    obtain ⟨a, vs, h1, rfl, h2, h3⟩ := h
    exact ⟨a, vs, h1, rfl, k a (by simp) _ h2, RepL.mono e _ _ h3⟩
  | dct t kvs =>
    obtain ⟨a, vs, h1, rfl, h2, h3⟩ := h
    refine ⟨a, vs, h1, rfl, ?_, RepL.mono e _ _ h3⟩
    rcases h2 with ⟨z, l, h4, h5⟩ | ⟨z, l, h4, h5⟩
    · exact .inl ⟨z, l, k a (by simp) _ h4, h5⟩
    · exact .inr ⟨z, l, k a (by simp) _ h4, h5⟩
  | mat rows =>
    obtain ⟨a, bs, h1, rfl, h2, h3⟩ := h
    exact ⟨a, bs, h1, rfl, k a (by simp) _ h2, RepM.keep e (fun b hb => k b (by simp [hb])) h3⟩
theorem RepM.there {G : Glo} {F H : Hp} : ∀ {rows : List (List D)} {bs : List Addr}, RepM G F H rows bs → ∀ b ∈ bs, ∃ o, H b = some o ∧ Ow o
  | [], bs, h, b, hb => by
    unfold RepM at h; subst h; simp at hb
  | r :: rs, bs, h, b, hb => by
    unfold RepM at h
    obtain ⟨c, t, vs, rfl, h1, h2, h3⟩ := h
    rcases List.mem_cons.mp hb with rfl | hb
    · exact ⟨_, h1, .inl ⟨_, rfl⟩⟩
    · exact RepM.there h3 b hb
theorem ObRep.there {G : Glo} {F H : Hp} {o : Ob} {v : V} {as : List Addr} (h : ObRep G F H o v as) : ∀ a ∈ as, ∃ u, H a = some u ∧ Ow u := by
  cases o with
  | lst xs =>
    obtain ⟨a, vs, h1, rfl, h2, h3⟩ := h
    intro b hb; simp at hb; subst hb; exact ⟨_, h2, .inl ⟨_, rfl⟩⟩
  | dct t kvs =>
    obtain ⟨a, vs, h1, rfl, h2, h3⟩ := h
    intro b hb; simp at hb; subst hb
    rcases h2 with ⟨z, l, h4, h5⟩ | ⟨z, l, h4, h5⟩
    · exact ⟨_, h4, .inr (.inl ⟨_, rfl⟩)⟩
    · exact ⟨_, h4, .inr (.inr ⟨_, rfl⟩)⟩
  | mat rows =>
    obtain ⟨a, bs, h1, rfl, h2, h3⟩ := h
    intro b hb
    rcases List.mem_cons.mp hb with rfl | hb
    · exact ⟨_, h2, .inl ⟨_, rfl⟩⟩
    · exact h3.there b hb
theorem SlRep.there {G : Glo} {F H : Hp} {s : Sl} {ov : Option (Option V)} {as : List Addr} (h : SlRep G F H s ov as) : ∀ a ∈ as, ∃ u, H a = some u ∧ Ow u := by
  cases s with
  | un => intro a ha; have h : as = [] := h; subst h; simp at ha
  | d x => intro a ha; obtain ⟨h, _⟩ := h; subst h; simp at ha
  | own o => obtain ⟨v, _, h⟩ := h; exact h.there
theorem SlRep.keep {G : Glo} {F F' H H' : Hp} (e : Same F F') {s : Sl} {ov : Option (Option V)} {as : List Addr} (k : ∀ a ∈ as, ∀ o, H a = some o → H' a = some o) (h : SlRep G F H s ov as) : SlRep G F' H' s ov as := by
  cases s with
  | un => exact h
  | d x => obtain ⟨h1, v, h2, h3⟩ := h; exact ⟨h1, v, h2, Rep.mono e _ _ h3⟩
  | own o => obtain ⟨v, h2, h3⟩ := h; exact ⟨v, h2, h3.keep e k⟩
theorem ER.there {G : Glo} {F H : Hp} {env : List Sl} {σ : St} {own : Nat → List Addr} (E : ER G F H env σ own) {a : Addr} (h : Inn own a) : ∃ u, H a = some u ∧ Ow u := by
  obtain ⟨i, hi⟩ := h
  cases q : env[i]? with
  | none =>
    have z : own i = [] := E.out i (by simpa using q)
    rw [z] at hi; simp at hi
  | some s => exact (E.rep i s q).there a hi
/-- nothing that is owned was touched -/
theorem ER.keep {G : Glo} {F F' H H' : Hp} {env : List Sl} {σ : St} {own : Nat → List Addr} (E : ER G F H env σ own) (e : Same F F') (k : ∀ a, Inn own a → ∀ o, H a = some o → H' a = some o) (off : ∀ a, Inn own a → F' a = none) (tb : TabG G F' H') : ER G F' H' env σ own where
  len := E.len
  rep := fun i s q => (E.rep i s q).keep e fun a ha => k a ⟨i, ha⟩
  out := E.out
  sep := E.sep
  nd := E.nd
  off := fun i a ha => off a ⟨i, ha⟩
  tab := tb

/-! ### a pure turn: only new things -/
structure Pure (F H F' H' : Hp) : Prop where
  fz : Same F F'
  sub : Same F' H'
  kp : Same H H'
  new : ∀ a o, F' a = some o → F a = some o ∨ H a = none ∨ Ex o
theorem Pure.refl {F H : Hp} (h : Same F H) : Pure F H F H := ⟨Same.refl F, h, Same.refl H, fun _ _ e => .inl e⟩
theorem Pure.trans {F H F1 H1 F2 H2 : Hp} (x : Pure F H F1 H1) (y : Pure F1 H1 F2 H2) : Pure F H F2 H2 where
  fz := x.fz.trans y.fz
  sub := y.sub
  kp := x.kp.trans y.kp
  new := fun a o e => by
    rcases y.new a o e with q | q | q
    · exact x.new a o q
    · exact .inr (.inl (x.kp.free q))
    · exact .inr (.inr q)
theorem Pure.step {F H F' H' : Hp} {G : Glo} {env : List Sl} {σ : St} {own : Nat → List Addr} (p : Pure F H F' H') : Step F H (Inn own) F' H' (Inn own) where
  fz := p.fz
  sub := p.sub
  fr := fun a o e _ => .inl (p.kp a o e)
  new := fun a o e => (p.new a o e).elim .inl fun z => .inr (.inr z)
  own := fun _ e => .inl e
theorem Pure.off {F H F' H' : Hp} {G : Glo} {env : List Sl} {σ : St} {own : Nat → List Addr} (p : Pure F H F' H') (E : ER G F H env σ own) {a : Addr} (ha : Inn own a) : F' a = none := by
  cases q : F' a with
  | none => rfl
  | some o =>
    obtain ⟨u, hu, ou⟩ := E.there ha
    obtain ⟨i, hi⟩ := ha
    rcases p.new a o q with z | z | z
    · rw [E.off i a hi] at z; cases z
    · rw [hu] at z; cases z
    · have e1 := p.sub a o q
      rw [p.kp a u hu] at e1
      cases e1
      exact absurd z ou.nex
theorem Pure.er {F H F' H' : Hp} {G : Glo} {env : List Sl} {σ : St} {own : Nat → List Addr} (p : Pure F H F' H') (E : ER G F H env σ own) : ER G F' H' env σ own :=
  E.keep p.fz (fun a _ o e => p.kp a o e) (fun a ha => p.off E ha) ⟨E.tab.1.ext p.kp, fun q hq => by
    cases z : F' q.1 with
    | none => rfl
    | some o =>
      obtain ⟨ps, h1, _⟩ := E.tab.1 q hq
      rcases p.new _ o z with y | y | y
      · rw [E.tab.2 q hq] at y; cases y
      · rw [h1] at y; cases y
      · have e1 := p.sub _ o z
        rw [p.kp _ _ h1] at e1
        cases e1
        exact absurd ⟨ps, rfl⟩ y.2⟩
/-- a new frozen thing -/
theorem Pure.put {F H : Hp} {p : Addr} {o : HO} (h : Same F H) (n : H p = none) : Pure F H (upd F p o) (upd H p o) where
  fz := fun b u e => by
    rw [upd_ne (ne_of_none e (h.free n))]; exact e
  sub := fun b u e => by
    by_cases hb : b = p
    · subst hb; rw [upd_same] at e ⊢; exact e
    · rw [upd_ne hb] at e ⊢; exact h _ _ e
  kp := fun b u e => by
    rw [upd_ne (ne_of_none e n)]; exact e
  new := fun b u e => by
    by_cases hb : b = p
    · subst hb; exact .inr (.inl n)
    · rw [upd_ne hb] at e; exact .inl e
/-- a new thing, not frozen -/
theorem Pure.lay {F H : Hp} {p : Addr} {o : HO} (h : Same F H) (n : H p = none) : Pure F H F (upd H p o) where
  fz := Same.refl F
  sub := fun b u e => by
    have e' := h _ _ e
    rw [upd_ne (ne_of_none e' n)]; exact e'
  kp := fun b u e => by
    rw [upd_ne (ne_of_none e n)]; exact e
  new := fun b u e => .inl e

/-! ### values of expressions -/
/-- what may be given out: owned at the start, or new since -/
abbrev Fre (own : Nat → List Addr) (H : Hp) (a : Addr) : Prop := Inn own a ∨ H a = none
theorem Step.fre {F H F' H' : Hp} {own own' : Nat → List Addr} (x : Step F H (Inn own) F' H' (Inn own')) {a : Addr} (h : Fre own' H' a) : Fre own H a := by
  rcases h with h | h
  · exact x.own a h
  · by_cases n : Inn own a
    · exact .inl n
    · cases q : H a with
      | none => exact .inr q
      | some u =>
        obtain ⟨w, z⟩ := x.keeps q n
        rw [z] at h; cases h
/-- S: what may be given out -/
def EVRep (G : Glo) (S : Addr → Prop) (F H : Hp) (A : Addr → Prop) : EV → V → Prop
  | .val d, v => Rep G F d v
  | .new o, v => ∃ as, ObRep G F H o v as ∧ as.Nodup ∧ ∀ a ∈ as, F a = none ∧ ¬ A a ∧ S a
theorem EVRep.wide {G : Glo} {S S' : Addr → Prop} {F H : Hp} {A : Addr → Prop} {r : EV} {v : V} (k : ∀ a, S a → S' a) (h : EVRep G S F H A r v) : EVRep G S' F H A r v := by
  cases r with
  | val d => exact h
  | new o =>
    obtain ⟨as, h1, h2, h3⟩ := h
    exact ⟨as, h1, h2, fun a ha => ⟨(h3 a ha).1, (h3 a ha).2.1, k a (h3 a ha).2.2⟩⟩
/-- what is seen of a value: its own object as it stands -/
def View (G : Glo) (F H : Hp) : D → V → Prop
  | .lst xs, v => ∃ a vs, v = .ref a ∧ H a = some (.lst vs) ∧ RepL G F xs vs
  | .dct t ks xs, v => ∃ a vs, v = .ref a ∧ (DFz H a t ks vs ∨ DOw H a t ks vs) ∧ RepL G F xs vs
  | .scr ns, v => ∃ a, v = .ref a ∧ SqL G.K H a (ns.map V.int)
  | d, v => Rep G F d v
theorem Rep.view {G : Glo} {F H : Hp} (e : Same F H) {d : D} {v : V} (h : Rep G F d v) : View G F H d v := by
  cases d with
  | lst xs => unfold Rep at h; obtain ⟨a, vs, h1, h2, h3⟩ := h; exact ⟨a, vs, h1, e _ _ h2, h3⟩
  | scr ns => unfold Rep at h; obtain ⟨a, h1, h2⟩ := h; exact ⟨a, h1, e.seq h2⟩
  | dct t ks xs => unfold Rep at h; obtain ⟨a, vs, h1, h2, h3⟩ := h; exact ⟨a, vs, h1, .inl (h2.mono e), h3⟩
  | _ => exact h
/-- a list of lists that one owns is not looked at as data here -/
def Ob.flat : Ob → Bool
  | .mat _ => false
  | _ => true
theorem ObRep.view {G : Glo} {F H : Hp} {o : Ob} {v : V} {as : List Addr} (h : ObRep G F H o v as) (hf : o.flat = true) : View G F H o.fz v := by
  cases o with
  | lst xs =>
    obtain ⟨a, vs, h1, _, h2, h3⟩ := h
    exact ⟨a, vs, h1, h2, h3⟩
  | dct t kvs =>
    obtain ⟨a, vs, h1, _, h2, h3⟩ := h
    exact ⟨a, vs, h1, .inr h2, h3⟩
  | mat rows => cases hf

/-! ### operands: data, or a slot that is looked at last -/
inductive Ar where
  | dat (d : D) | slot (i : Nat)
  deriving Inhabited
def look (env : List Sl) : Ar → Option D
  | .dat d => some d
  | .slot i => match env[i]? with
    | some (.d x) => some x
    | some (.own o) => if o.flat then some o.fz else none
    | _ => none
def ArRep (G : Glo) (F : Hp) (σ : St) : Ar → V → Prop
  | .dat d, v => Rep G F d v
  | .slot i, v => σ[i]? = some (some v)
theorem look_view {G : Glo} {F H : Hp} {env : List Sl} {σ : St} {own : Nat → List Addr} (E : ER G F H env σ own) (e : Same F H) {x : Ar} {v : V} {d : D} (r : ArRep G F σ x v) (h : look env x = some d) : View G F H d v := by
  cases x with
  | dat d' => cases h; exact Rep.view e r
  | slot i =>
    have r : σ[i]? = some (some v) := r
    unfold look at h
    dsimp only at h
    cases q : env[i]? with
    | none => rw [q] at h; cases h
    | some s =>
      rw [q] at h
      have R := E.rep i s q
      cases s with
      | un => cases h
      | d x =>
        cases h
        obtain ⟨_, u, hu, hr⟩ := R
        rw [r] at hu; cases hu
        exact Rep.view e hr
      | own o =>
        obtain ⟨u, hu, hr⟩ := R
        rw [r] at hu; cases hu
        dsimp only at h
        split at h
        · rename_i hf
          cases h
          exact hr.view hf
        · cases h
theorem ArRep.mono {G : Glo} {F F' : Hp} (e : Same F F') {σ : St} {x : Ar} {v : V} (r : ArRep G F σ x v) : ArRep G F' σ x v := by
  cases x with
  | dat d => exact Rep.mono e _ _ r
  | slot i => exact r

/-! ### readings -/
def Out.bind {α β : Type} (x : Out α) (f : α → List Sl → Out β) : Out β :=
  match x with
  | .ok a env => f a env
  | .exc c v env => .exc c v env
  | .bad => .bad
/-- the wish of an exception: its class's number, its value, frozen part, heap, slots, owned -/
abbrev WE := Nat → D → Hp → Hp → List Sl → (Nat → List Addr) → Prop
abbrev RG (α β : Type) := (Addr → Prop) → Hp → Hp → (Addr → Prop) → α → β → Prop
def Res {α β : Type} (G : Glo) (W : WE) (R : RG α β) (F H : Hp) (own : Nat → List Addr) (σ : St) (o : Out α) (Q : β → Hp → Prop) : Prop :=
  match o with
  | .ok r env' => ∀ F' H' own' v, Step F H (Inn own) F' H' (Inn own') → ER G F' H' env' σ own' → R (Fre own H) F' H' (Inn own') r v → Q v H'
  | .exc c d env' => ∀ F' H' own', Step F H (Inn own) F' H' (Inn own') → ER G F' H' env' σ own' → W c d F' H' env' own'
  | .bad => False
def RMono {α β : Type} (R : RG α β) : Prop := ∀ S S' F H A r v, (∀ a, S a → S' a) → R S F H A r v → R S' F H A r v
/-- a later start -/
theorem Res.later {α β : Type} {G : Glo} {W : WE} {R : RG α β} {F H F1 H1 : Hp} {own own1 : Nat → List Addr} {σ : St} {o : Out α} {Q : β → Hp → Prop} (m : RMono R) (x : Step F H (Inn own) F1 H1 (Inn own1)) (h : Res G W R F H own σ o Q) : Res G W R F1 H1 own1 σ o Q := by
  cases o with
  | ok r env' => exact fun F' H' own' v st E q => h F' H' own' v (x.trans st) E (m _ _ _ _ _ _ _ (fun a => x.fre) q)
  | exc c d env' => exact fun F' H' own' st E => h F' H' own' (x.trans st) E
  | bad => exact h
theorem Res.bind {α β α' β' : Type} {G : Glo} {W : WE} {R : RG α β} {R1 : RG α' β'} {F H : Hp} {own : Nat → List Addr} {σ : St} {x : Out α'} {f : α' → List Sl → Out α} {Q : β → Hp → Prop} {Q1 : β' → Hp → Prop} (m : RMono R)
    (h : Res G W R F H own σ (x.bind f) Q)
    (k : ∀ r e1 F1 H1 own1 v, Step F H (Inn own) F1 H1 (Inn own1) → ER G F1 H1 e1 σ own1 → R1 (Fre own H) F1 H1 (Inn own1) r v → Res G W R F1 H1 own1 σ (f r e1) Q → Q1 v H1) : Res G W R1 F H own σ x Q1 := by
  cases x with
  | ok r e1 => exact fun F1 H1 own1 v st E q => k r e1 F1 H1 own1 v st E q (Res.later m st h)
  | exc c d env' => exact h
  | bad => exact h
/-- a reading by what the evaluator tells -/
def rd {α β : Type} (G : Glo) (W : WE) (R : St → RG α β) (m : List Sl → Out α) : St → Hp → (β → Hp → Prop) → Prop := fun σ H Q =>
  ∃ F own env, Same F H ∧ ER G F H env σ own ∧ Res G W (R σ) F H own σ (m env) Q
def rEV (G : Glo) : St → RG EV V := fun _ S F H A r v => EVRep G S F H A r v
def rD (G : Glo) : St → RG D V := fun _ _ F _ _ d v => Rep G F d v
def rO (G : Glo) : St → RG Ar V := fun σ _ F _ _ x v => ArRep G F σ x v
def ArReps (G : Glo) (F : Hp) (σ : St) : List Ar → List V → Prop
  | [], vs => vs = []
  | x :: xs, vs => ∃ v r, vs = v :: r ∧ ArRep G F σ x v ∧ ArReps G F σ xs r
def rA (G : Glo) : St → RG (List Ar) (List V) := fun σ _ F _ _ xs vs => ArReps G F σ xs vs
def rT : St → RG Bool Bool := fun _ _ _ _ _ b c => b = c
theorem rEV_mono {G : Glo} {σ : St} : RMono (rEV G σ) := fun S S' F H A r v k h => EVRep.wide k h
theorem rD_mono {G : Glo} {σ : St} : RMono (rD G σ) := fun _ _ _ _ _ _ _ _ h => h
theorem rO_mono {G : Glo} {σ : St} : RMono (rO G σ) := fun _ _ _ _ _ _ _ _ h => h
theorem rA_mono {G : Glo} {σ : St} : RMono (rA G σ) := fun _ _ _ _ _ _ _ _ h => h
theorem rT_mono {σ : St} : RMono (rT σ) := fun _ _ _ _ _ _ _ _ h => h
abbrev tM (G : Glo) (W : WE) (m : List Sl → Out EV) : TE := rd G W (rEV G) m
abbrev tD (G : Glo) (W : WE) (m : List Sl → Out D) : TE := rd G W (rD G) m
abbrev tO (G : Glo) (W : WE) (m : List Sl → Out Ar) : TE := rd G W (rO G) m
abbrev tAr (G : Glo) (W : WE) (m : List Sl → Out (List Ar)) : TA := rd G W (rA G) m
abbrev tTs (G : Glo) (W : WE) (m : List Sl → Out Bool) : TT := rd G W rT m

/-! ### weakening -/
theorem _root_.L2.PE.weak {X : Cx} {e : Expr} {t t' : TE} (h : PE X e t) (k : ∀ σ H Q, t' σ H Q → t σ H Q) : PE X e t' := ⟨fun pins s σ H Q I q => h.run pins s σ H Q I (k σ H Q q)⟩
theorem _root_.L2.PT.weak {X : Cx} {e : Expr} {t t' : TT} (h : PT X e t) (k : ∀ σ H Q, t' σ H Q → t σ H Q) : PT X e t' := ⟨fun pins s σ H Q I q => h.run pins s σ H Q I (k σ H Q q)⟩
theorem _root_.L2.PW.weak {X : Cx} {e : Expr} {t t' : TT} (h : PW X e t) (k : ∀ σ H Q, t' σ H Q → t σ H Q) : PW X e t' := ⟨fun wh pins s σ H Q I q => h.run wh pins s σ H Q I (k σ H Q q)⟩
theorem _root_.L2.PA.weak {X : Cx} {es : List Expr} {t t' : TA} (h : PA X es t) (k : ∀ σ H Q, t' σ H Q → t σ H Q) : PA X es t' := ⟨fun pos pins s σ H Q I q => h.run pos pins s σ H Q I (k σ H Q q)⟩
theorem _root_.L2.PS.weak {X : Cx} {e : Stmt} {t t' : TS} (h : PS X e t) (k : ∀ D σ H, t' D σ H → t D σ H) : PS X e t' := ⟨fun pins s σ H D I q => h.run pins s σ H D I (k D σ H q)⟩
theorem _root_.L2.PSs.weak {X : Cx} {e : List Stmt} {t t' : TS} (h : PSs X e t) (k : ∀ D σ H, t' D σ H → t D σ H) : PSs X e t' := ⟨fun pins s σ H D I q => h.run pins s σ H D I (k D σ H q)⟩
end PyI

set_option Elab.async false
set_option linter.all false
set_option maxRecDepth 100000
/-! PyI: slots, freezing, names. -/
namespace PyI
open PySem PySem.Spec L2
set_option autoImplicit false

def ow (own : Nat → List Addr) (i : Nat) (as : List Addr) : Nat → List Addr := fun j => if j = i then as else own j
theorem ow_same {own : Nat → List Addr} {i : Nat} {as : List Addr} : ow own i as i = as := if_pos rfl
theorem ow_ne {own : Nat → List Addr} {i j : Nat} {as : List Addr} (h : j ≠ i) : ow own i as j = own j := if_neg h
theorem inn_ow {own : Nat → List Addr} {i : Nat} {as : List Addr} {a : Addr} (h : Inn (ow own i as) a) : a ∈ as ∨ ∃ j, j ≠ i ∧ a ∈ own j := by
  obtain ⟨j, hj⟩ := h
  by_cases e : j = i
  · subst e; rw [ow_same] at hj; exact .inl hj
  · rw [ow_ne e] at hj; exact .inr ⟨j, e, hj⟩

/-- what is owned was changed: the tables stay -/
theorem tabs_keep {G : Glo} {F F' H H' : Hp} (t : TabG G F H) (k : ∀ b o, H b = some o → ¬ Ow o → H' b = some o) (kF : ∀ b u, F' b = some u → F b = some u ∨ ∃ o, H b = some o ∧ Ow o) : TabG G F' H' := ⟨fun p hp => by
  obtain ⟨ps, h1, h2, h3⟩ := t.1 p hp
  refine ⟨ps, k _ _ h1 fun z => z.ntb ⟨_, rfl⟩, h2, fun pos cv hc => ?_⟩
  obtain ⟨c, e1, e2⟩ := h3 pos cv hc
  exact ⟨c, e1, k _ _ e2 fun z => z.nex ex_ext⟩, fun p hp => by
  obtain ⟨ps, h1, _⟩ := t.1 p hp
  cases z : F' p.1 with
  | none => rfl
  | some u =>
    rcases kF _ u z with y | ⟨o, y, ow⟩
    · rw [t.2 p hp] at y; cases y
    · rw [h1] at y; cases y
      exact absurd ⟨ps, rfl⟩ ow.ntb⟩
theorem ER.put {G : Glo} {F F' H H' : Hp} {env : List Sl} {σ σ' : St} {own : Nat → List Addr} (E : ER G F H env σ own) {i : Nat} {s' : Sl} {as : List Addr} (hi : i < env.length) (e : Same F F')
    (hσl : σ'.length = σ.length) (hσ : ∀ j, j ≠ i → σ'[j]? = σ[j]?)
    (k : ∀ j, j ≠ i → ∀ a ∈ own j, ∀ o, H a = some o → H' a = some o) (r : SlRep G F' H' s' σ'[i]? as) (nd : as.Nodup) (dj : ∀ j, j ≠ i → ∀ a ∈ as, a ∉ own j)
    (off : ∀ j, j ≠ i → ∀ a ∈ own j, F' a = none) (off' : ∀ a ∈ as, F' a = none) (tb : TabG G F' H') : ER G F' H' (env.set i s') σ' (ow own i as) where
  tab := tb
  len := by rw [List.length_set, hσl]; exact E.len
  rep := fun j s q => by
    by_cases h : j = i
    · subst h
      rw [List.getElem?_set_self hi] at q; cases q
      rw [ow_same]; exact r
    · rw [List.getElem?_set_ne (Ne.symm h)] at q
      rw [ow_ne h, hσ j h]
      exact (E.rep j s q).keep e (k j h)
  out := fun j h => by
    rw [List.length_set] at h
    by_cases h2 : j = i
    · subst h2; exact absurd hi (Nat.not_lt.mpr h)
    · rw [ow_ne h2]; exact E.out j h
  sep := fun j l a h1 h2 => by
    by_cases e1 : j = i
    · by_cases e2 : l = i
      · rw [e1, e2]
      · subst e1; rw [ow_same] at h1; rw [ow_ne e2] at h2; exact absurd h2 (dj l e2 a h1)
    · by_cases e2 : l = i
      · subst e2; rw [ow_same] at h2; rw [ow_ne e1] at h1; exact absurd h1 (dj j e1 a h2)
      · rw [ow_ne e1] at h1; rw [ow_ne e2] at h2; exact E.sep j l a h1 h2
  nd := fun j => by
    by_cases e1 : j = i
    · subst e1; rw [ow_same]; exact nd
    · rw [ow_ne e1]; exact E.nd j
  off := fun j a h => by
    by_cases e1 : j = i
    · subst e1; rw [ow_same] at h; exact off' a h
    · rw [ow_ne e1] at h; exact off j e1 a h

/-! ### freezing -/
def fzF (F H : Hp) (as : List Addr) : Hp := fun b => if b ∈ as then H b else F b
theorem fzF_in {F H : Hp} {as : List Addr} {b : Addr} (h : b ∈ as) : fzF F H as b = H b := if_pos h
theorem fzF_out {F H : Hp} {as : List Addr} {b : Addr} (h : b ∉ as) : fzF F H as b = F b := if_neg h
theorem RepM.froze {G : Glo} {F F' H : Hp} (e : Same F F') : ∀ {rows : List (List D)} {bs : List Addr}, (∀ b ∈ bs, F' b = H b) → RepM G F H rows bs → RepL G F' (rows.map .lst) (bs.map .ref)
  | [], bs, _, h => by unfold RepM at h; subst h; exact .nil
  | r :: rs, bs, k, h => by
    unfold RepM at h
    obtain ⟨b, t, vs, rfl, h1, h2, h3⟩ := h
    refine RepL.cons ?_ (RepM.froze e (fun c hc => k c (by simp [hc])) h3)
    unfold Rep
    exact ⟨b, vs, rfl, (k b (by simp)).trans h1, RepL.mono e _ _ h2⟩
/-- a thing that is owned (or new) is frozen: nothing happens, but that a dict is locked -/
theorem freeze {X : Cx} {pins : List (Addr × Obj)} {σ : St} {H : Hp} {s : Shared} (I : Inv X pins σ H s) {G : Glo} {F : Hp} (hs : Same F H) {o : Ob} {v : V} {as : List Addr} (h : ObRep G F H o v as) (off : ∀ a ∈ as, F a = none) :
    ∃ F' H', Inv X pins σ H' s ∧ Same F F' ∧ Same F' H' ∧ (∀ a, a ∉ as → H' a = H a) ∧ (∀ a u, F' a = some u → F a = some u ∨ a ∈ as) ∧ Rep G F' o.fz v := by
  have key : ∀ H' : Hp, (∀ a, a ∉ as → H' a = H a) → Same F (fzF F H' as) ∧ Same (fzF F H' as) H' ∧ (∀ a u, fzF F H' as a = some u → F a = some u ∨ a ∈ as) := fun H' k => by
    refine ⟨fun b u e => ?_, fun b u e => ?_, fun b u e => ?_⟩
    · by_cases hb : b ∈ as
      · rw [off b hb] at e; cases e
      · rw [fzF_out hb]; exact e
    · by_cases hb : b ∈ as
      · rw [fzF_in hb] at e; exact e
      · rw [fzF_out hb] at e; rw [k b hb]; exact hs _ _ e
    · by_cases hb : b ∈ as
      · exact .inr hb
      · rw [fzF_out hb] at e; exact .inl e
  cases o with
  | lst xs =>
    obtain ⟨a, vs, rfl, rfl, h2, h3⟩ := h
    obtain ⟨k1, k2, k3⟩ := key H fun _ _ => rfl
    refine ⟨_, H, I, k1, k2, fun _ _ => rfl, k3, ?_⟩
    unfold Ob.fz Rep
    exact ⟨a, vs, rfl, (fzF_in (by simp)).trans h2, RepL.mono k1 _ _ h3⟩
  | mat rows =>
    obtain ⟨a, bs, rfl, rfl, h2, h3⟩ := h
    obtain ⟨k1, k2, k3⟩ := key H fun _ _ => rfl
    refine ⟨_, H, I, k1, k2, fun _ _ => rfl, k3, ?_⟩
    unfold Ob.fz Rep
    exact ⟨a, _, rfl, (fzF_in (by simp)).trans h2, h3.froze k1 fun b hb => fzF_in (by simp [hb])⟩
  | dct t kvs =>
    obtain ⟨a, vs, rfl, rfl, h2, h3⟩ := h
    rcases h2 with ⟨z, l, h4, h5, h6⟩ | ⟨z, l, h4, h5, h6⟩
    · obtain ⟨od, I'⟩ := I.lock h4 True.intro
      obtain ⟨k1, k2, k3⟩ := key (upd H a (.frz od (.dK l))) fun b hb => upd_ne (by simpa using hb)
      refine ⟨_, _, I', k1, k2, fun b hb => upd_ne (by simpa using hb), k3, ?_⟩
      unfold Ob.fz Rep
      exact ⟨a, vs, rfl, .inl ⟨z, od, l, (fzF_in (by simp)).trans upd_same, h5, h6⟩, RepL.mono k1 _ _ h3⟩
    · obtain ⟨od, I'⟩ := I.lock h4 True.intro
      obtain ⟨k1, k2, k3⟩ := key (upd H a (.frz od (.dT l))) fun b hb => upd_ne (by simpa using hb)
      refine ⟨_, _, I', k1, k2, fun b hb => upd_ne (by simpa using hb), k3, ?_⟩
      unfold Ob.fz Rep
      exact ⟨a, vs, rfl, .inr ⟨z, od, l, (fzF_in (by simp)).trans upd_same, h5, h6⟩, RepL.mono k1 _ _ h3⟩

/-! ### names, constants -/
def mC (d : D) (env : List Sl) : Out D := .ok d env
/-- a name whose thing is looked at last -/
def oVar (i : Nat) (env : List Sl) : Out Ar :=
  match env[i]? with
  | some (.d x) => .ok (.dat x) env
  | some (.own _) => .ok (.slot i) env
  | _ => .bad
/-- a name as a value: its thing is frozen -/
def mVar (i : Nat) (env : List Sl) : Out D :=
  match env[i]? with
  | some (.d x) => .ok x env
  | some (.own o) => .ok o.fz (env.set i (.d o.fz))
  | _ => .bad
/-- a name given up: its thing goes on -/
def vMove (lk : List Nat) (i : Nat) (env : List Sl) : Out EV :=
  if i ∈ lk then .bad else match env[i]? with
  | some (.d x) => .ok (.val x) env
  | some (.own o) => .ok (.new o) (env.set i .un)
  | _ => .bad
def mDat (m : List Sl → Out D) (env : List Sl) : Out Ar := (m env).bind fun d e => .ok (.dat d) e
def mVal (m : List Sl → Out D) (env : List Sl) : Out EV := (m env).bind fun d e => .ok (.val d) e
def mFz (m : List Sl → Out EV) (env : List Sl) : Out D := (m env).bind fun r e => .ok r.fz e

section
variable {G : Glo} {W : WE} {X : Cx}
theorem rd_ok {α β : Type} {R : RG α β} {F H : Hp} {own : Nat → List Addr} {σ : St} {r : α} {env : List Sl} {Q : β → Hp → Prop} {v : β} (hs : Same F H) (E : ER G F H env σ own) (h : Res G W R F H own σ (.ok r env) Q) (q : R (Fre own H) F H (Inn own) r v) : Q v H :=
  h F H own v (Step.refl hs) E q
theorem s_c {e : Expr} {v : V} {d : D} (h : PE X e (tC v)) (r : ∀ F, Rep G F d v) : PE X e (tD G W (mC d)) := h.weak fun σ H Q ⟨F, own, env, hs, E, q⟩ => rd_ok hs E q (r F)
theorem s_oVar {i : Nat} {x : Str} {pos : Pos} (h : PE X (.Name x pos) (tVar i)) : PE X (.Name x pos) (tO G W (oVar i)) := h.weak fun σ H Q ⟨F, own, env, hs, E, q⟩ => by
  unfold oVar at q
  cases hq : env[i]? with
  | none => rw [hq] at q; exact q.elim
  | some s =>
    rw [hq] at q
    have R := E.rep i s hq
    cases s with
    | un => exact q.elim
    | d x => obtain ⟨_, v, e1, e2⟩ := R; exact ⟨v, e1, rd_ok hs E q e2⟩
    | own o => obtain ⟨v, e1, e2⟩ := R; exact ⟨v, e1, rd_ok hs E q e1⟩
theorem s_mVar {i : Nat} {x : Str} {pos : Pos} (h : PE X (.Name x pos) (tVar i)) : PE X (.Name x pos) (tD G W (mVar i)) := by
  refine ⟨fun pins s σ H Q I ⟨F, own, env, hs, E, q⟩ => ?_⟩
  unfold mVar at q
  cases hq : env[i]? with
  | none => rw [hq] at q; exact q.elim
  | some sl =>
    rw [hq] at q
    have R := E.rep i sl hq
    cases sl with
    | un => exact q.elim
    | d y => obtain ⟨_, v, e1, e2⟩ := R; exact h.run pins s σ H Q I ⟨v, e1, rd_ok hs E q e2⟩
    | own o =>
      obtain ⟨v, e1, e2⟩ := R
      have hi : i < env.length := (List.getElem?_eq_some_iff.mp hq).1
      refine thn (h.run pins s σ H (fun u H1 => u = v ∧ H1 = H) I ⟨v, e1, rfl, rfl⟩) fun u s1 ⟨v1, H1, I1, r1, hv, hH⟩ => ?_
      subst hv hH
      obtain ⟨F', H', I', k1, k2, k3, k4, k5⟩ := freeze I1 hs e2 (E.off i)
      have offj : ∀ j, j ≠ i → ∀ a ∈ own j, F' a = none := fun j hj a ha => by
        cases hF : F' a with
        | none => rfl
        | some w =>
          rcases k4 a w hF with z | z
          · rw [E.off j a ha] at z; cases z
          · exact absurd (E.sep j i a ha z) hj
      have kj : ∀ j, j ≠ i → ∀ a ∈ own j, ∀ w, H1 a = some w → H' a = some w := fun j hj a ha w hw => by
        rw [k3 a fun z => hj (E.sep j i a ha z)]; exact hw
      refine ⟨v1, H', I', r1, q F' H' (ow own i []) v1 ⟨k1, k2, fun a w hw n => ?_, fun a w hw => ?_, fun a ha => ?_⟩ (E.put (s' := .d o.fz) hi k1 rfl (fun _ _ => rfl) kj ⟨rfl, v1, e1, k5⟩ List.nodup_nil (fun _ _ _ z => by simp at z) offj (fun _ z => by simp at z) (tabs_keep E.tab (fun b w hb ho => by
          rw [k3 b fun z => ?_]
          · exact hb
          · obtain ⟨w', hw, ow⟩ := e2.there b z
            rw [hw] at hb; cases hb
            exact ho ow) fun b u hb => (k4 b u hb).elim .inl fun z => .inr (e2.there b z))) k5⟩
      · rw [k3 a fun z => n ⟨i, z⟩]; exact .inl hw
      · exact (k4 a w hw).elim .inl fun z => .inr (.inl ⟨i, z⟩)
      · rcases inn_ow ha with z | ⟨j, _, z⟩
        · simp at z
        · exact .inl ⟨j, z⟩
theorem s_vMove {lk : List Nat} {i : Nat} {x : Str} {pos : Pos} (h : PE X (.Name x pos) (tVar i)) : PE X (.Name x pos) (tM G W (vMove lk i)) := h.weak fun σ H Q ⟨F, own, env, hs, E, q⟩ => by
  unfold vMove at q
  by_cases hlk : i ∈ lk
  · rw [if_pos hlk] at q; exact q.elim
  rw [if_neg hlk] at q
  cases hq : env[i]? with
  | none => rw [hq] at q; exact q.elim
  | some s =>
    rw [hq] at q
    have R := E.rep i s hq
    cases s with
    | un => exact q.elim
    | d x => obtain ⟨_, v, e1, e2⟩ := R; exact ⟨v, e1, rd_ok hs E q e2⟩
    | own o =>
      obtain ⟨v, e1, e2⟩ := R
      have hi : i < env.length := (List.getElem?_eq_some_iff.mp hq).1
      refine ⟨v, e1, q F H (ow own i []) v ⟨Same.refl F, hs, fun _ _ e _ => .inl e, fun _ _ e => .inl e, fun a ha => ?_⟩
        (E.put hi (Same.refl F) rfl (fun _ _ => rfl) (fun _ _ _ _ _ e => e) rfl List.nodup_nil (fun _ _ _ z => by simp at z) (fun j _ a ha => E.off j a ha) (fun _ z => by simp at z) E.tab) ⟨own i, e2, E.nd i, fun a ha => ⟨E.off i a ha, fun z => ?_, .inl ⟨i, ha⟩⟩⟩⟩
      · rcases inn_ow ha with z | ⟨j, _, z⟩
        · simp at z
        · exact .inl ⟨j, z⟩
      · rcases inn_ow z with z | ⟨j, hj, z⟩
        · simp at z
        · exact hj (E.sep j i a z ha)
theorem s_dat {e : Expr} {m : List Sl → Out D} (h : PE X e (tD G W m)) : PE X e (tO G W (mDat m)) := h.weak fun σ H Q ⟨F, own, env, hs, E, q⟩ =>
  ⟨F, own, env, hs, E, q.bind rO_mono fun r e1 F1 H1 own1 v st E1 rr q1 => rd_ok st.sub E1 q1 rr⟩
theorem s_val {e : Expr} {m : List Sl → Out D} (h : PE X e (tD G W m)) : PE X e (tM G W (mVal m)) := h.weak fun σ H Q ⟨F, own, env, hs, E, q⟩ =>
  ⟨F, own, env, hs, E, q.bind rEV_mono fun r e1 F1 H1 own1 v st E1 rr q1 => rd_ok st.sub E1 q1 rr⟩
theorem s_fz {e : Expr} {m : List Sl → Out EV} (h : PE X e (tM G W m)) : PE X e (tD G W (mFz m)) := by
  refine ⟨fun pins s σ H Q I ⟨F, own, env, hs, E, q⟩ => ?_⟩
  have q0 : Res G W (rEV G σ) F H own σ (m env) (fun v H1 => ∀ s1, Inv X pins σ H1 s1 → ∃ H', Inv X pins σ H' s1 ∧ Q v H') := by
    unfold mFz at q
    cases hm : m env with
    | bad => rw [hm] at q; exact q
    | exc c d e1 => rw [hm] at q; exact q
    | ok r e1 =>
      rw [hm] at q
      intro F1 H1 own1 v st E1 rr s1 I1
      cases r with
      | val d => exact ⟨H1, I1, q F1 H1 own1 v st E1 rr⟩
      | new o =>
        obtain ⟨as, h1, h2, h3⟩ := rr
        obtain ⟨F', H', I', k1, k2, k3, k4, k5⟩ := freeze I1 st.sub h1 fun a ha => (h3 a ha).1
        have na : ∀ a, Inn own1 a → a ∉ as := fun a ha z => (h3 a z).2.1 ha
        refine ⟨H', I', q F' H' own1 v ⟨st.fz.trans k1, k2, fun a w hw n => ?_, fun a w hw => ?_, st.own⟩ (E1.keep k1 (fun a ha w hw => by rw [k3 a (na a ha)]; exact hw) (fun a ha => ?_) (tabs_keep E1.tab (fun b o hb ho => by
          rw [k3 b fun z => ?_]
          · exact hb
          · obtain ⟨w, hw, ow⟩ := h1.there b z
            rw [hw] at hb; cases hb
            exact ho ow) fun b u hb => (k4 b u hb).elim .inl fun z => .inr (h1.there b z))) k5⟩
        · by_cases z : a ∈ as
          · rcases (h3 a z).2.2 with y | y
            · exact absurd y n
            · rw [hw] at y; cases y
          · rw [k3 a z]; exact st.fr a w hw n
        · rcases k4 a w hw with z | z
          · exact st.new a w z
          · exact (h3 a z).2.2.elim (fun y => .inr (.inl y)) fun y => .inr (.inr (.inl y))
        · cases hF : F' a with
          | none => rfl
          | some w =>
            rcases k4 a w hF with z | z
            · obtain ⟨j, hj⟩ := ha; rw [E1.off j a hj] at z; cases z
            · exact absurd z (na a ha)
  refine thn (h.run pins s σ H _ I ⟨F, own, env, hs, E, q0⟩) fun u s1 ⟨v, H1, I1, r1, k⟩ => ?_
  obtain ⟨H', I', q'⟩ := k s1 I1
  exact ⟨v, H', I', r1, q'⟩
end
end PyI

set_option Elab.async false
set_option linter.all false
set_option maxRecDepth 100000
/-! PyI: operations, tests, argument lists, displays. -/
namespace PyI
open PySem PySem.Spec L2
set_option autoImplicit false

/-! ### pure operations by what is seen -/
def PQ (G : Glo) (F H : Hp) (r : EV) (Q : VK) : Prop := ∀ F' H' v, Pure F H F' H' → EVRep G (fun a => H a = none) F' H' (fun _ => False) r v → Q v H'
def Views (G : Glo) (F H : Hp) : List D → List V → Prop
  | [], vs => vs = []
  | d :: ds, vs => ∃ v r, vs = v :: r ∧ View G F H d v ∧ Views G F H ds r
def rP1 (G : Glo) (f : D → Option EV) : V → Hp → VK → Prop := fun x H Q => ∃ F d r, Same F H ∧ View G F H d x ∧ f d = some r ∧ PQ G F H r Q
def rP2 (G : Glo) (f : D → D → Option EV) : R2 := fun x y H Q => ∃ F d e r, Same F H ∧ View G F H d x ∧ View G F H e y ∧ f d e = some r ∧ PQ G F H r Q
def rPN (G : Glo) (f : List D → Option EV) : List V → Hp → VK → Prop := fun xs H Q => ∃ F ds r, Same F H ∧ Views G F H ds xs ∧ f ds = some r ∧ PQ G F H r Q

def ofOpt {α : Type} (o : Option α) (env : List Sl) : Out α :=
  match o with
  | some r => .ok r env
  | none => .bad
def fin1 (f : D → Option EV) (x : Ar) (env : List Sl) : Out EV := ofOpt ((look env x).bind f) env
def fin2 (f : D → D → Option EV) (x y : Ar) (env : List Sl) : Out EV := ofOpt ((look env x).bind fun a => (look env y).bind fun b => f a b) env
def looks (env : List Sl) : List Ar → Option (List D)
  | [] => some []
  | x :: xs => (look env x).bind fun a => (looks env xs).bind fun r => some (a :: r)
def finN (f : List D → Option EV) (xs : List Ar) (env : List Sl) : Out EV := ofOpt ((looks env xs).bind f) env
def m1 (f : D → Option EV) (ma : List Sl → Out Ar) (env : List Sl) : Out EV := (ma env).bind fun x e1 => fin1 f x e1
def m2 (f : D → D → Option EV) (ma mb : List Sl → Out Ar) (env : List Sl) : Out EV := (ma env).bind fun x e1 => (mb e1).bind fun y e2 => fin2 f x y e2
def mN (f : List D → Option EV) (ms : List Sl → Out (List Ar)) (env : List Sl) : Out EV := (ms env).bind fun xs e1 => finN f xs e1
def aNil (env : List Sl) : Out (List Ar) := .ok [] env
def aCons (m : List Sl → Out Ar) (ms : List Sl → Out (List Ar)) (env : List Sl) : Out (List Ar) := (m env).bind fun x e1 => (ms e1).bind fun xs e2 => .ok (x :: xs) e2
/-- a value that is a truth -/
def mTst (m : List Sl → Out EV) (env : List Sl) : Out Bool := (m env).bind fun r e => match r with
  | .val (.bl b) => .ok b e
  | _ => .bad

section
variable {G : Glo} {W : WE} {F H : Hp} {env : List Sl} {σ : St} {own : Nat → List Addr} {Q : VK}
theorem ofOpt_res {α β : Type} {R : RG α β} {o : Option α} {Q : β → Hp → Prop} (q : Res G W R F H own σ (ofOpt o env) Q) : ∃ r, o = some r ∧ Res G W R F H own σ (.ok r env) Q := by
  cases o with
  | none => exact q.elim
  | some r => exact ⟨r, rfl, q⟩
/-- the end of a pure operation -/
theorem pq_res {r : EV} (hs : Same F H) (E : ER G F H env σ own) (q : Res G W (rEV G σ) F H own σ (.ok r env) Q) : PQ G F H r Q := fun F' H' v p rr => by
  refine q F' H' own v (p.step (G := G) (env := env) (σ := σ)) (p.er E) ?_
  cases r with
  | val d => exact rr
  | new o =>
    obtain ⟨as, h1, h2, h3⟩ := rr
    refine ⟨as, h1, h2, fun a ha => ⟨(h3 a ha).1, fun z => ?_, .inr (h3 a ha).2.2⟩⟩
    obtain ⟨u, hu, _⟩ := E.there z
    have z2 : H a = none := (h3 a ha).2.2
    rw [hu] at z2; cases z2
theorem looks_views (E : ER G F H env σ own) (e : Same F H) : ∀ {xs : List Ar} {vs : List V} {ds : List D}, ArReps G F σ xs vs → looks env xs = some ds → Views G F H ds vs
  | [], vs, ds, r, h => by
    unfold looks at h; cases h
    unfold ArReps at r; subst r
    unfold Views; rfl
  | x :: xs, vs, ds, r, h => by
    unfold looks at h
    unfold ArReps at r
    obtain ⟨v, t, rfl, r1, r2⟩ := r
    cases h1 : look env x with
    | none => rw [h1] at h; cases h
    | some d =>
      rw [h1] at h
      cases h2 : looks env xs with
      | none => rw [h2] at h; cases h
      | some t' =>
        rw [h2] at h; cases h
        unfold Views
        exact ⟨v, t, rfl, look_view E e r1 h1, looks_views E e r2 h2⟩
theorem fin1_res {f : D → Option EV} {x : Ar} {vx : V} (hs : Same F H) (E : ER G F H env σ own) (rx : ArRep G F σ x vx) (q : Res G W (rEV G σ) F H own σ (fin1 f x env) Q) : rP1 G f vx H Q := by
  obtain ⟨r, h, q⟩ := ofOpt_res q
  cases h1 : look env x with
  | none => rw [h1] at h; cases h
  | some d => rw [h1] at h; exact ⟨F, d, r, hs, look_view E hs rx h1, h, pq_res hs E q⟩
theorem fin2_res {f : D → D → Option EV} {x y : Ar} {vx vy : V} (hs : Same F H) (E : ER G F H env σ own) (rx : ArRep G F σ x vx) (ry : ArRep G F σ y vy) (q : Res G W (rEV G σ) F H own σ (fin2 f x y env) Q) : rP2 G f vx vy H Q := by
  obtain ⟨r, h, q⟩ := ofOpt_res q
  cases h1 : look env x with
  | none => rw [h1] at h; cases h
  | some d =>
    cases h2 : look env y with
    | none => rw [h1, h2] at h; cases h
    | some e => rw [h1, h2] at h; exact ⟨F, d, e, r, hs, look_view E hs rx h1, look_view E hs ry h2, h, pq_res hs E q⟩
theorem finN_res {f : List D → Option EV} {xs : List Ar} {vs : List V} (hs : Same F H) (E : ER G F H env σ own) (rx : ArReps G F σ xs vs) (q : Res G W (rEV G σ) F H own σ (finN f xs env) Q) : rPN G f vs H Q := by
  obtain ⟨r, h, q⟩ := ofOpt_res q
  cases h1 : looks env xs with
  | none => rw [h1] at h; cases h
  | some ds => rw [h1] at h; exact ⟨F, ds, r, hs, looks_views E hs rx h1, h, pq_res hs E q⟩
theorem ArReps.mono {F' : Hp} (e : Same F F') : ∀ {xs : List Ar} {vs : List V}, ArReps G F σ xs vs → ArReps G F' σ xs vs
  | [], vs, h => h
  | x :: xs, vs, h => by
    unfold ArReps at h ⊢
    obtain ⟨v, t, h1, h2, h3⟩ := h
    exact ⟨v, t, h1, h2.mono e, ArReps.mono e h3⟩
end

section
variable {G : Glo} {W : WE} {X : Cx} {a b c : Expr} {pos : Pos} {ma mb mc : List Sl → Out Ar} {σ : St} {H : Hp} {Q : VK}
/-- the reading of a two-place operation -/
theorem t2_of {f : D → D → Option EV} (h : tM G W (m2 f ma mb) σ H Q) : tOp (rP2 G f) (tO G W ma) (tO G W mb) σ H Q := by
  obtain ⟨F, own, env, hs, E, q⟩ := h
  refine ⟨F, own, env, hs, E, q.bind rEV_mono fun x e1 F1 H1 own1 vx st1 E1 rx q1 => ⟨F1, own1, e1, st1.sub, E1, q1.bind rEV_mono fun y e2 F2 H2 own2 vy st2 E2 ry q2 => ?_⟩⟩
  exact fin2_res st2.sub E2 (ArRep.mono st2.fz rx) ry q2
theorem s_op {op : Operator} {f : D → D → Option EV} (ho : OpR X (binaryOp op) (rP2 G f)) (ha : PE X a (tO G W ma)) (hb : PE X b (tO G W mb)) : PE X (.BinOp a op b pos) (tM G W (m2 f ma mb)) :=
  (pe_op ho ha hb).weak fun σ H Q h => t2_of h
theorem s_cmp {op : CmpOp} {f : D → D → Option EV} (ho : OpR X (compareOp op) (rP2 G f)) (ha : PE X a (tO G W ma)) (hb : PE X b (tO G W mb)) (hm : behindInMarks op b = false) : PE X (.Compare a [op] [b] pos) (tM G W (m2 f ma mb)) :=
  (pe_cmpR ho ha hb hm).weak fun σ H Q h => t2_of h
/-- a test by the reading of its value -/
theorem tst_of {m : List Sl → Out EV} {σ : St} {H : Hp} {Q : Bool → Hp → Prop} (h : tTs G W (mTst m) σ H Q) : tM G W m σ H (fun x H' => ∃ k, x = .bl k ∧ Q k H') := by
  obtain ⟨F, own, env, hs, E, q⟩ := h
  refine ⟨F, own, env, hs, E, q.bind rT_mono fun r e1 F1 H1 own1 v st1 E1 rr q1 => ?_⟩
  cases r with
  | new o => exact q1.elim
  | val d =>
    cases d with
    | bl k => exact ⟨k, rr, rd_ok st1.sub E1 q1 rfl⟩
    | _ => exact q1.elim
theorem p_cmp {op : CmpOp} {f : D → D → Option EV} (ho : OpR X (compareOp op) (rP2 G f)) (ha : PE X a (tO G W ma)) (hb : PE X b (tO G W mb)) (hm : behindInMarks op b = false) : PT X (.Compare a [op] [b] pos) (tTs G W (mTst (m2 f ma mb))) :=
  (pt_cmpR ho ha hb hm).weak fun σ H Q h => t2_of (tst_of h)
theorem s_un {op : UnaryOp} {f : D → Option EV} (ho : UnR X (unaryOp op) (rP1 G f)) (ha : PE X a (tO G W ma)) : PE X (.UnaryOp op a pos) (tM G W (m1 f ma)) :=
  (pe_un ho ha).weak fun σ H Q ⟨F, own, env, hs, E, q⟩ => ⟨F, own, env, hs, E, q.bind rEV_mono fun x e1 F1 H1 own1 vx st1 E1 rx q1 => fin1_res st1.sub E1 rx q1⟩
/-- any expression that gives a truth, as a test -/
theorem p_val {e : Expr} {m : List Sl → Out EV} (h : PE X e (tM G W m)) (he : ∀ whole, isTrue e X.env whole = (do let v ← whole; standAt e.pos; holding [v] (truthy v))) : PT X e (tTs G W (mTst m)) :=
  (pt_val h he).weak fun σ H Q q => by
    have z := tst_of q
    exact z

/-! ### argument lists -/
theorem a_nil : PA X [] (tAr G W aNil) := pa_nil.weak fun σ H Q ⟨F, own, env, hs, E, q⟩ => rd_ok hs E q rfl
theorem a_cons {e : Expr} {es : List Expr} {m : List Sl → Out Ar} {ms : List Sl → Out (List Ar)} (h : PE X e (tO G W m)) (h' : PA X es (tAr G W ms)) (hs : starEach (e :: es) X.env = (false, eval e X.env) :: starEach es X.env) : PA X (e :: es) (tAr G W (aCons m ms)) :=
  (pa_cons h h' hs).weak fun σ H Q ⟨F, own, env, hs, E, q⟩ => ⟨F, own, env, hs, E, q.bind rA_mono fun x e1 F1 H1 own1 vx st1 E1 rx q1 => ⟨F1, own1, e1, st1.sub, E1, q1.bind rA_mono fun xs e2 F2 H2 own2 vs st2 E2 rxs q2 => by
    refine rd_ok st2.sub E2 q2 ?_
    show ArReps G F2 σ (x :: xs) (vx :: vs)
    unfold ArReps
    exact ⟨vx, vs, rfl, ArRep.mono st2.fz rx, rxs⟩⟩⟩
/-- a call of a built-in by its name -/
theorem s_callB {x : Str} {p : Pos} {e : Expr} {es : List Expr} {id : String} {f : List D → Option EV} {ms : List Sl → Out (List Ar)} (hc : CallR X (.builtin id) (rPN G f)) (hg : Gl X x) (hm : X.mg x = none) (hv : bootBuiltins x = some (.builtin id)) (h : PA X (e :: es) (tAr G W ms))
    (hn : x ≠ "__name__") (hd : (x == ("__debug__" : Str)) = false) (hr : PE X (.Call (.Name x p) (e :: es) [] pos) (tCB (rPN G f) (tAr G W ms))) : PE X (.Call (.Name x p) (e :: es) [] pos) (tM G W (mN f ms)) :=
  hr.weak fun σ H Q ⟨F, own, env, hs, E, q⟩ => ⟨F, own, env, hs, E, q.bind rEV_mono fun xs e1 F1 H1 own1 vs st1 E1 rx q1 => finN_res st1.sub E1 rx q1⟩

/-! ### data lists -/
def dats : List Ar → Option (List D)
  | [] => some []
  | .dat d :: xs => (dats xs).bind fun r => some (d :: r)
  | _ => none
theorem dats_rep {F : Hp} : ∀ {xs : List Ar} {vs : List V} {ds : List D}, ArReps G F σ xs vs → dats xs = some ds → RepL G F ds vs
  | [], vs, ds, r, h => by
    unfold dats at h; cases h
    unfold ArReps at r; subst r; exact .nil
  | x :: xs, vs, ds, r, h => by
    unfold ArReps at r
    obtain ⟨v, t, rfl, r1, r2⟩ := r
    cases x with
    | slot i => unfold dats at h; cases h
    | dat d =>
      unfold dats at h
      cases h2 : dats xs with
      | none => rw [h2] at h; cases h
      | some t' => rw [h2] at h; cases h; exact .cons r1 (dats_rep r2 h2)
def mDisp (mk : List D → EV) (ms : List Sl → Out (List Ar)) (env : List Sl) : Out EV := (ms env).bind fun xs e => ofOpt ((dats xs).bind fun ds => if ds.length ≤ 16777216 then some (mk ds) else none) e
abbrev mTup := mDisp fun ds => .val (.tup ds)
abbrev mLst := mDisp fun ds => .new (.lst ds)
theorem disp_of {mk : List D → EV} {ms : List Sl → Out (List Ar)} (h : tM G W (mDisp mk ms) σ H Q) : tAr G W ms σ H fun xs H1 => ∃ F ds own env, Same F H1 ∧ ER G F H1 env σ own ∧ xs.length ≤ sizeLine ∧ RepL G F ds xs ∧ Res G W (rEV G σ) F H1 own σ (.ok (mk ds) env) Q := by
  obtain ⟨F, own, env, hs, E, q⟩ := h
  refine ⟨F, own, env, hs, E, q.bind rEV_mono fun xs e1 F1 H1 own1 vs st1 E1 rx q1 => ?_⟩
  obtain ⟨r, hr, q2⟩ := ofOpt_res q1
  cases h1 : dats xs with
  | none => rw [h1] at hr; cases hr
  | some ds =>
    rw [h1, Option.bind_some] at hr
    split at hr
    · rename_i hl
      cases hr
      have rl := dats_rep rx h1
      exact ⟨F1, ds, own1, e1, st1.sub, E1, by rw [← rl.length, sizeLine_eq]; exact hl, rl, q2⟩
    · cases hr
theorem s_tup {es : List Expr} {k : Nat} {ms : List Sl → Out (List Ar)} (h : PA X es (tAr G W ms)) : PE X (.Tuple es k pos) (tM G W (mTup ms)) :=
  (pe_tup h).weak fun σ H Q q => by
    have z := disp_of q
    obtain ⟨F, own, env, hs, E, z⟩ := z
    refine ⟨F, own, env, hs, E, ?_⟩
    cases hm : ms env with
    | bad => rw [hm] at z; exact z
    | exc c d e1 => rw [hm] at z; exact z
    | ok r e1 =>
      rw [hm] at z
      intro F' H' own' v st E' rr
      obtain ⟨F2, ds, own2, env2, hs2, E2, hl, rl, q2⟩ := z F' H' own' v st E' rr
      refine ⟨hl, fun p np => pq_res hs2 E2 q2 _ _ _ (Pure.put (o := .tup v) hs2 np) ?_⟩
      show Rep G _ (.tup ds) (.ref p)
      unfold Rep
      exact ⟨p, v, rfl, upd_same, RepL.mono (Pure.put (o := .tup v) hs2 np).fz _ _ rl⟩
theorem s_lst {es : List Expr} {ms : List Sl → Out (List Ar)} (h : PA X es (tAr G W ms)) : PE X (.List es pos) (tM G W (mLst ms)) :=
  (pe_lst h).weak fun σ H Q q => by
    have z := disp_of q
    obtain ⟨F, own, env, hs, E, z⟩ := z
    refine ⟨F, own, env, hs, E, ?_⟩
    cases hm : ms env with
    | bad => rw [hm] at z; exact z
    | exc c d e1 => rw [hm] at z; exact z
    | ok r e1 =>
      rw [hm] at z
      intro F' H' own' v st E' rr
      obtain ⟨F2, ds, own2, env2, hs2, E2, hl, rl, q2⟩ := z F' H' own' v st E' rr
      refine ⟨hl, fun p np => pq_res hs2 E2 q2 _ _ _ (Pure.lay (o := .lst v) hs2 np) ?_⟩
      exact ⟨[p], ⟨p, v, rfl, rfl, upd_same, rl⟩, by simp, fun a ha => by
        have e : a = p := by simpa using ha
        subst e; exact ⟨hs2.free np, fun z => z, np⟩⟩
end
end PyI

set_option Elab.async false
set_option linter.all false
set_option maxRecDepth 100000
/-! PyI: statements. -/
namespace PyI
open PySem PySem.Spec L2
set_option autoImplicit false

inductive SF where
  | next | ret (r : EV)
  deriving Inhabited

section
variable (G : Glo) (W : WE) (lk : List Nat)
/-- slots that are never stored -/
abbrev Kp (lk : List Nat) (σ σ' : L2.St) : Prop := σ'.length = σ.length ∧ ∀ j, j ∈ lk → σ'[j]? = σ[j]?
def ResS (F H : Hp) (own : Nat → List Addr) (σ : L2.St) (o : Out SF) (D : Ends) : Prop :=
  match o with
  | .ok .next env' => ∀ F' H' own' σ', Step F H (Inn own) F' H' (Inn own') → ER G F' H' env' σ' own' → Kp lk σ σ' → D.nx σ' H'
  | .ok (.ret r) env' => ∀ F' H' own' σ' v, Step F H (Inn own) F' H' (Inn own') → ER G F' H' env' σ' own' → Kp lk σ σ' → EVRep G (Fre own H) F' H' (Inn own') r v → D.rt v H'
  | .exc c d env' => ∀ F' H' own' σ', Step F H (Inn own) F' H' (Inn own') → ER G F' H' env' σ' own' → Kp lk σ σ' → W c d F' H' env' own'
  | .bad => False
def tS (m : List Sl → Out SF) : TS := fun D σ H => ∃ F own env, Same F H ∧ ER G F H env σ own ∧ ResS G W lk F H own σ (m env) D
end
section
variable {G : Glo} {W : WE} {lk : List Nat}
theorem Kp.refl {lk : List Nat} {σ : L2.St} : Kp lk σ σ := ⟨rfl, fun _ _ => rfl⟩
theorem Kp.trans {lk : List Nat} {σ σ1 σ2 : L2.St} (a : Kp lk σ σ1) (b : Kp lk σ1 σ2) : Kp lk σ σ2 := ⟨b.1.trans a.1, fun j h => (b.2 j h).trans (a.2 j h)⟩
theorem ResS.later {F H F1 H1 : Hp} {own own1 : Nat → List Addr} {σ σ1 : L2.St} {o : Out SF} {D : Ends} (x : Step F H (Inn own) F1 H1 (Inn own1)) (kp : Kp lk σ σ1) (h : ResS G W lk F H own σ o D) : ResS G W lk F1 H1 own1 σ1 o D := by
  cases o with
  | ok r env' =>
    cases r with
    | next => exact fun F' H' own' σ' st E k => h F' H' own' σ' (x.trans st) E (kp.trans k)
    | ret r => exact fun F' H' own' σ' v st E k q => h F' H' own' σ' v (x.trans st) E (kp.trans k) (q.wide fun a => x.fre)
  | exc c d env' => exact fun F' H' own' σ' st E k => h F' H' own' σ' (x.trans st) E (kp.trans k)
  | bad => exact h
/-- an expression, then a statement's rest -/
theorem ResS.bindE {α β : Type} {R1 : RG α β} {F H : Hp} {own : Nat → List Addr} {σ : St} {x : Out α} {f : α → List Sl → Out SF} {D : Ends} {Q1 : β → Hp → Prop}
    (h : ResS G W lk F H own σ (x.bind f) D)
    (k : ∀ r e1 F1 H1 own1 v, Step F H (Inn own) F1 H1 (Inn own1) → ER G F1 H1 e1 σ own1 → R1 (Fre own H) F1 H1 (Inn own1) r v → ResS G W lk F H own σ (f r e1) D → ResS G W lk F1 H1 own1 σ (f r e1) D → Q1 v H1) : Res G W R1 F H own σ x Q1 := by
  cases x with
  | ok r e1 => exact fun F1 H1 own1 v st E q => k r e1 F1 H1 own1 v st E q h (ResS.later st .refl h)
  | exc c d env' => exact fun F' H' own' st E => h F' H' own' σ st E .refl
  | bad => exact h
theorem ResS.next {F H : Hp} {own : Nat → List Addr} {env : List Sl} {σ : St} {D : Ends} (hs : Same F H) (E : ER G F H env σ own) (h : ResS G W lk F H own σ (.ok .next env) D) : D.nx σ H := h F H own σ (Step.refl hs) E .refl

def mSeq (m1 m2 : List Sl → Out SF) (env : List Sl) : Out SF := (m1 env).bind fun f e => match f with
  | .next => m2 e
  | .ret r => .ok (.ret r) e
def mSkip (env : List Sl) : Out SF := .ok .next env
theorem seq_res {F H : Hp} {own : Nat → List Addr} {σ : L2.St} {o : Out SF} {m2 : List Sl → Out SF} {D : Ends} (q : ResS G W lk F H own σ (o.bind fun f e => match f with
  | .next => m2 e
  | .ret r => .ok (.ret r) e) D) : ResS G W lk F H own σ o { D with nx := tS G W lk m2 D } := by
  cases o with
  | bad => exact q
  | exc c d e1 => exact q
  | ok f e1 =>
    cases f with
    | next => exact fun F1 H1 own1 σ1 st E1 k => ⟨F1, own1, e1, st.sub, E1, ResS.later st k q⟩
    | ret r => exact q
variable {X : Cx} {st : Stmt} {rest : List Stmt} {pos : Pos}
theorem ss_nil : PSs X [] (tS G W lk mSkip) := pss_nil.weak fun D σ H ⟨F, own, env, hs, E, q⟩ => q.next hs E
theorem ss_cons {m1 m2 : List Sl → Out SF} (h1 : PS X st (tS G W lk m1)) (h2 : PSs X rest (tS G W lk m2)) : PSs X (st :: rest) (tS G W lk (mSeq m1 m2)) :=
  (pss_cons h1 h2).weak fun D σ H ⟨F, own, env, hs, E, q⟩ => ⟨F, own, env, hs, E, seq_res q⟩

/-! ### slots -/
def isOwn : Option Sl → Bool
  | some (.own _) => true
  | _ => false
def toSl : EV → Sl
  | .val d => .d d
  | .new o => .own o
/-- a name is stored; a thing that was lent stays the lender's -/
def setSl (lk : List Nat) (i : Nat) (s : Sl) (env : List Sl) : Option (List Sl) :=
  if i ∈ lk then none else if i < env.length then some (env.set i s) else none
theorem setSl_some {lk : List Nat} {i : Nat} {s : Sl} {env env' : List Sl} (h : setSl lk i s env = some env') : i < env.length ∧ env' = env.set i s ∧ i ∉ lk := by
  unfold setSl at h
  split at h
  · cases h
  · rename_i n
    split at h
    · cases h; exact ⟨by assumption, rfl, n⟩
    · cases h
def mSet (lk : List Nat) (i : Nat) (m : List Sl → Out EV) (env : List Sl) : Out SF := (m env).bind fun r e => (ofOpt (setSl lk i (toSl r) e) e).bind fun e' _ => .ok .next e'
theorem ER.store {F H : Hp} {env env' : List Sl} {σ : St} {own : Nat → List Addr} {r : EV} {v : V} {i : Nat} {lk : List Nat} {S : Addr → Prop} (E : ER G F H env σ own) (hs : Same F H) (rr : EVRep G S F H (Inn own) r v) (h : setSl lk i (toSl r) env = some env') :
    ∃ own', ER G F H env' (σ.set i (some v)) own' ∧ Kp lk σ (σ.set i (some v)) ∧ ∀ a, Inn own' a → Inn own a ∨ S a := by
  obtain ⟨hi, rfl, hk⟩ := setSl_some h
  have kp : Kp lk σ (σ.set i (some v)) := ⟨by simp, fun j hj => List.getElem?_set_ne fun z => hk (by rw [z]; exact hj)⟩
  have hiσ : i < σ.length := by rw [← E.len]; exact hi
  cases r with
  | val d =>
    refine ⟨ow own i [], E.put hi (Same.refl F) (by simp) (fun j hj => List.getElem?_set_ne (Ne.symm hj)) (fun _ _ _ _ _ e => e) ⟨rfl, v, by rw [List.getElem?_set_self hiσ], rr⟩ List.nodup_nil (fun _ _ _ z => by simp at z) (fun j _ a ha => E.off j a ha) (fun _ z => by simp at z) E.tab, kp, fun a ha => ?_⟩
    rcases inn_ow ha with z | ⟨j, _, z⟩
    · simp at z
    · exact .inl ⟨j, z⟩
  | new o =>
    obtain ⟨as, h1, h2, h3⟩ := rr
    refine ⟨ow own i as, E.put hi (Same.refl F) (by simp) (fun j hj => List.getElem?_set_ne (Ne.symm hj)) (fun _ _ _ _ _ e => e) ⟨v, by rw [List.getElem?_set_self hiσ], h1⟩ h2 (fun j _ a ha z => (h3 a ha).2.1 ⟨j, z⟩) (fun j _ a ha => E.off j a ha) (fun a ha => (h3 a ha).1) E.tab, kp, fun a ha => ?_⟩
    rcases inn_ow ha with z | ⟨j, _, z⟩
    · exact .inr (h3 a z).2.2
    · exact .inl ⟨j, z⟩
/-- a step in which only what is owned changed -/
theorem Step.own' {F H F1 H1 : Hp} {own own1 own2 : Nat → List Addr} (st : Step F H (Inn own) F1 H1 (Inn own1)) (k : ∀ a, Inn own2 a → Inn own1 a ∨ Fre own H a) : Step F H (Inn own) F1 H1 (Inn own2) :=
  ⟨st.fz, st.sub, st.fr, st.new, fun a ha => (k a ha).elim (fun z => st.own a z) id⟩
theorem st_set {i : Nat} {x : Str} {e : Expr} {m : List Sl → Out EV} {pos' : Pos} (he : PE X e (tM G W m)) (h : ∀ te, PE X e te → PS X (.Assign [.Name x pos'] e pos) (tAsg te (gName i))) : PS X (.Assign [.Name x pos'] e pos) (tS G W lk (mSet lk i m)) :=
  (h _ he).weak fun D σ H ⟨F, own, env, hs, E, q⟩ => ⟨F, own, env, hs, E, ResS.bindE q fun r e1 F1 H1 own1 v st E1 rr q0 q1 => by
    cases h1 : setSl lk i (toSl r) e1 with
    | none => rw [h1] at q0; exact q0.elim
    | some e2 =>
      rw [h1] at q0
      obtain ⟨own2, E2, kp, k⟩ := E1.store st.sub rr h1
      exact q0 F1 H1 own2 _ (st.own' k) E2 kp⟩

/-! ### an expression alone, return, if -/
def mExpr (m : List Sl → Out EV) (env : List Sl) : Out SF := (m env).bind fun _ e => .ok .next e
theorem st_expr {e : Expr} {m : List Sl → Out EV} (he : PE X e (tM G W m)) (hs : swapsWith e none pos.line X.env = pure false) : PS X (.Expr e pos) (tS G W lk (mExpr m)) :=
  (ps_expr he hs).weak fun D σ H ⟨F, own, env, hs, E, q⟩ => ⟨F, own, env, hs, E, ResS.bindE q fun r e1 F1 H1 own1 v st E1 rr q0 q1 => q1.next st.sub E1⟩
theorem st_doc {x : Str} {j : Nat} {pos' : Pos} : PS X (.Expr (.Constant (.str x) j pos) pos') (tS G W lk mSkip) := ps_doc.weak fun D σ H ⟨F, own, env, hs, E, q⟩ => q.next hs E
theorem st_pass : PS X (.Pass pos) (tS G W lk mSkip) := ps_pass.weak fun D σ H ⟨F, own, env, hs, E, q⟩ => q.next hs E
def mRet (m : List Sl → Out EV) (env : List Sl) : Out SF := (m env).bind fun r e => .ok (.ret r) e
theorem st_ret {e : Expr} {m : List Sl → Out EV} (he : PE X e (tM G W m)) : PS X (.Return (some e) pos) (tS G W lk (mRet m)) :=
  (ps_ret he).weak fun D σ H ⟨F, own, env, hs, E, q⟩ => ⟨F, own, env, hs, E, ResS.bindE q fun r e1 F1 H1 own1 v st E1 rr q0 q1 => q0 F1 H1 own1 σ v st E1 .refl rr⟩
theorem st_retN : PS X (.Return none pos) (tS G W lk fun env => .ok (.ret (.val .non)) env) :=
  ps_retN.weak fun D σ H ⟨F, own, env, hs, E, q⟩ => q F H own σ .non (Step.refl hs) E .refl rfl
def mIf (c : List Sl → Out Bool) (m1 m2 : List Sl → Out SF) (env : List Sl) : Out SF := (c env).bind fun b e => if b then m1 e else m2 e
theorem st_if {c : Expr} {a b : List Stmt} {mc : List Sl → Out Bool} {m1 m2 : List Sl → Out SF} (hc : PT X c (tTs G W mc)) (ha : PSs X a (tS G W lk m1)) (hb : PSs X b (tS G W lk m2)) : PS X (.If c a b pos) (tS G W lk (mIf mc m1 m2)) :=
  (ps_if hc ha hb).weak fun D σ H ⟨F, own, env, hs, E, q⟩ => ⟨F, own, env, hs, E, ResS.bindE q fun r e1 F1 H1 own1 v st E1 rr q0 q1 => by
    have rr : r = v := rr
    subst rr
    cases r with
    | true => exact ⟨F1, own1, e1, st.sub, E1, q1⟩
    | false => exact ⟨F1, own1, e1, st.sub, E1, q1⟩⟩

/-! ### while -/
def mWh (c : List Sl → Out Bool) (b : List Sl → Out SF) : Nat → List Sl → Out SF
  | 0, _ => .bad
  | n + 1, env => (c env).bind fun t e => if t then mSeq b (mWh c b n) e else .ok .next e
theorem st_while {c : Expr} {body : List Stmt} {mc : List Sl → Out Bool} {m : List Sl → Out SF} (n : Nat) (hp : PassesOwn (model X.prog X.w) X.A X.env X.xe) (hc : PT X c (tTs G W mc)) (hb : PSs X body (tS G W lk m)) : PS X (.While c body [] pos) (tS G W lk (mWh mc m n)) :=
  (ps_while hp hc hb).weak fun D σ H h => by
    refine ⟨fun n σ H => tS G W lk (mWh mc m n) D σ H, ⟨n, h⟩, ?_⟩
    intro k σ H h
    obtain ⟨F, own, env, hs, E, q⟩ := h
    cases k with
    | zero => exact q.elim
    | succ k =>
      refine ⟨F, own, env, hs, E, ResS.bindE q fun r e1 F1 H1 own1 v st E1 rr q0 q1 => ?_⟩
      have rr : r = v := rr
      subst rr
      cases r with
      | false => exact q1.next st.sub E1
      | true =>
        refine ⟨tS G W lk (mWh mc m k) D, fun σ' H' z => ⟨k, Nat.lt_succ_self k, z⟩, F1, own1, e1, st.sub, E1, ?_⟩
        have z := seq_res (o := m e1) (m2 := mWh mc m k) q1
        revert z
        cases hm : m e1 with
        | bad => exact fun z => z
        | exc c d e2 => exact fun z => z
        | ok f e2 =>
          cases f with
          | next => exact fun z => z
          | ret r => exact fun z => z
end
end PyI

set_option Elab.async false
set_option linter.all false
set_option maxRecDepth 100000
/-! PyI: targets, for, comprehensions. -/
namespace PyI
open PySem PySem.Spec L2
set_option autoImplicit false

inductive Tg where
  | nm (i : Nat) | tp (ts : List Tg)
  deriving Inhabited
/-! which slots a target fills -/
mutual
def Tg.slots : Tg → List Nat
  | .nm i => [i]
  | .tp ts => Tg.slotsL ts
def Tg.slotsL : List Tg → List Nat
  | [] => []
  | t :: ts => Tg.slots t ++ Tg.slotsL ts
end
mutual
def assT (lk : List Nat) : Tg → D → List Sl → Option (List Sl)
  | .nm i, d, env => setSl lk i (.d d) env
  | .tp ts, .tup xs, env => assTs lk ts xs env
  | .tp _, _, _ => none
def assTs (lk : List Nat) : List Tg → List D → List Sl → Option (List Sl)
  | [], [], env => some env
  | t :: ts, x :: xs, env => (assT lk t x env).bind fun e => assTs lk ts xs e
  | _, _, _ => none
end
theorem assTs_len {lk : List Nat} : ∀ {ts : List Tg} {xs : List D} {env env' : List Sl}, assTs lk ts xs env = some env' → ts.length = xs.length
  | [], [], _, _, _ => rfl
  | [], _ :: _, _, _, h => by unfold assTs at h; cases h
  | _ :: _, [], _, _, h => by unfold assTs at h; cases h
  | t :: ts, x :: xs, env, env', h => by
    unfold assTs at h
    cases h1 : assT lk t x env with
    | none => rw [h1] at h; cases h
    | some e => rw [h1] at h; simp [assTs_len (ts := ts) (xs := xs) h]

section
variable (G : Glo)
def tTg (lk : List Nat) (t : Tg) : TG := fun v σ H Q => ∃ F own env d env', Same F H ∧ ER G F H env σ own ∧ Rep G F d v ∧ assT lk t d env = some env' ∧ ∀ σ' own', ER G F H env' σ' own' → (∀ a, Inn own' a → Inn own a) → σ'.length = σ.length → (∀ i, i ∉ t.slots → σ'[i]? = σ[i]?) → Kp lk σ σ' → Q σ' H
def tTgs (lk : List Nat) (ts : List Tg) : TGs := fun vs σ H Q => ∃ F own env ds env', Same F H ∧ ER G F H env σ own ∧ RepL G F ds vs ∧ assTs lk ts ds env = some env' ∧ ∀ σ' own', ER G F H env' σ' own' → (∀ a, Inn own' a → Inn own a) → σ'.length = σ.length → (∀ i, i ∉ Tg.slotsL ts → σ'[i]? = σ[i]?) → Kp lk σ σ' → Q σ' H
end
section
variable {G : Glo} {W : WE} {X : Cx} {pos : Pos} {lk : List Nat}
theorem _root_.L2.PG.weak {tg : Expr} {t t' : TG} (h : PG X tg t) (k : ∀ v σ H Q, t' v σ H Q → t v σ H Q) : PG X tg t' := ⟨fun pins s σ H v u Q I r q => h.run pins s σ H v u Q I r (k v σ H Q q)⟩
theorem _root_.L2.PGs.weak {tg : List Expr} {t t' : TGs} (h : PGs X tg t) (k : ∀ v σ H Q, t' v σ H Q → t v σ H Q) : PGs X tg t' := ⟨fun pins s σ H v u Q I r q => h.run pins s σ H v u Q I r (k v σ H Q q)⟩
theorem g_nm {i : Nat} {x : Str} (h : PG X (.Name x pos) (gName i)) : PG X (.Name x pos) (tTg G lk (.nm i)) := h.weak fun v σ H Q ⟨F, own, env, d, env', hs, E, r, ha, q⟩ => by
  unfold assT at ha
  obtain ⟨own', E', kp, k⟩ := E.store (S := fun _ => False) (v := v) (r := .val d) hs r ha
  exact q _ own' E' (fun a ha => (k a ha).elim id False.elim) (by simp) (fun j hj => List.getElem?_set_ne fun z => hj (by unfold Tg.slots; simp [z])) kp
theorem gs_nil : PGs X [] (tTgs G lk []) := pgs_nil.weak fun v σ H Q ⟨F, own, env, ds, env', hs, E, r, ha, q⟩ => by
  cases ds with
  | nil =>
    unfold assTs at ha; cases ha
    unfold RepL at r
    exact ⟨r, q σ own E (fun a h => h) rfl (fun _ _ => rfl) .refl⟩
  | cons d ds => unfold assTs at ha; cases ha
theorem gs_cons {e : Expr} {es : List Expr} {t : Tg} {ts : List Tg} (h1 : PG X e (tTg G lk t)) (h2 : PGs X es (tTgs G lk ts)) (hs : (assignEach (e :: es) X.env).map (·.2) = assign e X.env :: (assignEach es X.env).map (·.2)) : PGs X (e :: es) (tTgs G lk (t :: ts)) :=
  (pgs_cons h1 h2 hs).weak fun v σ H Q ⟨F, own, env, ds, env', hs, E, r, ha, q⟩ => by
    cases ds with
    | nil => unfold assTs at ha; cases ha
    | cons d ds =>
      unfold assTs at ha
      cases h1 : assT lk t d env with
      | none => rw [h1] at ha; cases ha
      | some e1 =>
        rw [h1] at ha
        unfold RepL at r
        obtain ⟨v1, vr, rfl, r1, r2⟩ := r
        exact ⟨v1, vr, rfl, F, own, env, d, e1, hs, E, r1, h1, fun σ1 own1 E1 k1 l1 s1 p1 => ⟨F, own1, e1, ds, env', hs, E1, r2, ha, fun σ2 own2 E2 k2 l2 s2 p2 => q σ2 own2 E2 (fun a z => k1 a (k2 a z)) (l2.trans l1) (fun i hi => by
          unfold Tg.slotsL at hi
          rw [List.mem_append] at hi
          exact (s2 i fun z => hi (.inr z)).trans (s1 i fun z => hi (.inl z))) (p1.trans p2)⟩⟩
theorem g_tp {es : List Expr} {k : Nat} {ts : List Tg} (hc : X.calm = true) (h : PGs X es (tTgs G lk ts)) (hn : (assignEach es X.env).length = ts.length) (hst : (assignEach es X.env).findIdx? (·.1) = none) : PG X (.Tuple es k pos) (tTg G lk (.tp ts)) :=
  (pg_tup hc h hn hst).weak fun v σ H Q ⟨F, own, env, d, env', hs, E, r, ha, q⟩ => by
    cases d with
    | tup xs =>
      unfold assT at ha
      unfold Rep at r
      obtain ⟨a, vs, rfl, r1, r2⟩ := r
      exact ⟨a, vs, rfl, .inl (.inl (hs _ _ r1)), by rw [← r2.length, assTs_len ha], F, own, env, xs, env', hs, E, r2, ha, fun σ' own' E' k l sl kp => q σ' own' E' k l (fun i hi => sl i (by unfold Tg.slots at hi; exact hi)) kp⟩
    | _ => unfold assT at ha; cases ha
/-- target = e -/
def mAss (lk : List Nat) (t : Tg) (m : List Sl → Out D) (env : List Sl) : Out SF := (m env).bind fun d e => (ofOpt (assT lk t d e) e).bind fun e' _ => .ok .next e'
theorem st_ass {tg e : Expr} {t : Tg} {m : List Sl → Out D} (he : PE X e (tD G W m)) (hg : PG X tg (tTg G lk t)) (hs : swapsWithSole [tg] e pos.line X.env = pure false) (hw : swappedStores [tg] e X.env = pure none)
    (h1 : (assignEach [tg] X.env).map (·.2) = [assign tg X.env]) : PS X (.Assign [tg] e pos) (tS G W lk (mAss lk t m)) :=
  (ps_asg he hg hs hw h1).weak fun D σ H ⟨F, own, env, hs, E, q⟩ => ⟨F, own, env, hs, E, ResS.bindE q fun d e1 F1 H1 own1 v st E1 rr q0 q1 => by
    cases h1 : assT lk t d e1 with
    | none => rw [h1] at q0; exact q0.elim
    | some e2 =>
      rw [h1] at q0
      exact ⟨F1, own1, e1, d, e2, st.sub, E1, rr, h1, fun σ' own' E' k _ _ kp => q0 F1 H1 own' σ' (st.own' fun a z => .inl (k a z)) E' kp⟩⟩

/-! ### what is walked -/
def Src (G : Glo) (F : Hp) (xs : List D) (J : It) : Prop := xs.length ≤ sizeLine ∧ ∃ Gd Y, Walk J xs.length Gd Y ∧ (∀ H2, Same F H2 → Gd H2) ∧
  ∀ i H2 v H2' F2, Same F F2 → Same F2 H2 → i < xs.length → Y i H2 v H2' → ∃ F2' x, Pure F2 H2 F2' H2' ∧ xs[i]? = some x ∧ Rep G F2' x v
theorem Src.mono {F F' : Hp} {xs : List D} {J : It} (e : Same F F') (h : Src G F xs J) : Src G F' xs J := by
  obtain ⟨hz, Gd, Y, w, h1, h2⟩ := h
  exact ⟨hz, Gd, Y, w, fun H2 z => h1 H2 (e.trans z), fun i H2 v H2' F2 z => h2 i H2 v H2' F2 (e.trans z)⟩
def rI (G : Glo) : L2.St → RG (List D) It := fun _ _ F _ _ xs J => Src G F xs J
theorem rI_mono {σ : L2.St} : RMono (rI G σ) := fun _ _ _ _ _ _ _ _ h => h
abbrev tI (G : Glo) (W : WE) (m : List Sl → Out (List D)) : TI := rd G W (rI G) m

/-! ### for -/
def forD (lk : List Nat) (t : Tg) (b : List Sl → Out SF) : List D → List Sl → Out SF
  | [], env => .ok .next env
  | x :: xs, env => (ofOpt (assT lk t x env) env).bind fun e _ => mSeq b (forD lk t b xs) e
def mFor (lk : List Nat) (t : Tg) (it : List Sl → Out (List D)) (b : List Sl → Out SF) (env : List Sl) : Out SF := (it env).bind fun xs e => forD lk t b xs e
theorem st_for {tg iter : Expr} {t : Tg} {it : List Sl → Out (List D)} {body : List Stmt} {m : List Sl → Out SF} (hp : PassesOwn (model X.prog X.w) X.A X.env X.xe) (hc : X.calm = true) (hi : PI X tg iter (tI G W it)) (hg : PG X tg (tTg G lk t)) (hb : PSs X body (tS G W lk m))
    (hs : ∀ x, foldedSetIterable iter X.env x = pure x) : PS X (.For tg iter body [] pos) (tS G W lk (mFor lk t it m)) :=
  (ps_for hp hc hi hg hb hs).weak fun D σ H ⟨F, own, env, hs, E, q⟩ => ⟨F, own, env, hs, E, ResS.bindE q fun xs e1 F1 H1 own1 J st E1 rr q0 q1 => by
    obtain ⟨_, Gd, Y, w, g1, g2⟩ := rr
    refine for_it w (fun i σ2 H2 => ∃ F2 own2 e2, Same F1 F2 ∧ Same F2 H2 ∧ ER G F2 H2 e2 σ2 own2 ∧ ResS G W lk F2 H2 own2 σ2 (forD lk t m (xs.drop i) e2) D) ⟨F1, own1, e1, Same.refl F1, st.sub, E1, q1⟩ (fun i σ2 H2 _ ⟨F2, own2, e2, k1, k2, _, _⟩ => g1 H2 (k1.trans k2)) ?_ ?_
    · rintro i v σ2 H2 H2' hi ⟨F2, own2, e2, k1, k2, E2, q2⟩ y
      obtain ⟨F2', x, p, hx, rx⟩ := g2 i H2 v H2' F2 k1 k2 hi y
      have hd : xs.drop i = x :: xs.drop (i + 1) := by
        obtain ⟨h1, h2⟩ := List.getElem?_eq_some_iff.mp hx
        rw [← h2]; exact List.drop_eq_getElem_cons h1
      rw [hd] at q2
      unfold forD at q2
      cases ha : assT lk t x e2 with
      | none => rw [ha] at q2; exact q2.elim
      | some e3 =>
        rw [ha] at q2
        have st2 := p.step (G := G) (env := e2) (σ := σ2) (own := own2)
        refine ⟨F2', own2, e2, x, e3, p.sub, p.er E2, rx, ha, fun σ3 own3 E3 k3 _ _ kp3 => ?_⟩
        have st3 : Step F2 H2 (Inn own2) F2' H2' (Inn own3) := st2.own' fun a z => .inl (k3 a z)
        refine ⟨F2', own3, e3, p.sub, E3, ?_⟩
        have q3 : ResS G W lk F2' H2' own3 σ3 (mSeq m (forD lk t m (xs.drop (i + 1))) e3) D := ResS.later st3 kp3 q2
        unfold mSeq at q3
        cases hm : m e3 with
        | bad => rw [hm] at q3; exact q3
        | exc c d e4 => rw [hm] at q3; exact q3
        | ok f e4 =>
          rw [hm] at q3
          cases f with
          | ret r => exact q3
          | next => exact fun F4 H4 own4 σ4 st4 E4 kp4 => ⟨F4, own4, e4, (k1.trans p.fz).trans st4.fz, st4.sub, E4, ResS.later st4 kp4 q3⟩
    · rintro σ2 H2 ⟨F2, own2, e2, k1, k2, E2, q2⟩
      rw [List.drop_of_length_le (Nat.le_refl _)] at q2
      exact q2.next k2 E2⟩
end

/-! ### comprehensions -/
def wipeE (env : List Sl) : List Nat → List Sl
  | [] => env
  | v :: vs => (wipeE env vs).set v .un
def restE (old env : List Sl) : List Nat → List Sl
  | [] => env
  | v :: vs => match old[v]? with
    | some s => (restE old env vs).set v s
    | none => restE old env vs
theorem wipeE_len {env : List Sl} : ∀ {vs : List Nat}, (wipeE env vs).length = env.length
  | [] => rfl
  | v :: vs => by unfold wipeE; rw [List.length_set, wipeE_len]
theorem wipeE_in {env : List Sl} {i : Nat} (hi : i < env.length) : ∀ {vs : List Nat}, i ∈ vs → (wipeE env vs)[i]? = some .un
  | [], h => by simp at h
  | v :: vs, h => by
    unfold wipeE
    by_cases e : v = i
    · subst e; rw [List.getElem?_set_self (by rw [wipeE_len]; exact hi)]
    · rw [List.getElem?_set_ne e]
      exact wipeE_in hi ((List.mem_cons.mp h).elim (fun z => absurd z.symm e) id)
theorem wipeE_out {env : List Sl} {i : Nat} : ∀ {vs : List Nat}, i ∉ vs → (wipeE env vs)[i]? = env[i]?
  | [], _ => rfl
  | v :: vs, h => by
    unfold wipeE
    rw [List.getElem?_set_ne (fun z => h (by simp [z])), wipeE_out fun z => h (by simp [z])]
theorem wipe_out {σ : L2.St} {i : Nat} : ∀ {vs : List Nat}, i ∉ vs → (wipe σ vs)[i]? = σ[i]?
  | [], _ => rfl
  | v :: vs, h => by
    unfold wipe
    rw [List.getElem?_set_ne (fun z => h (by simp [z])), wipe_out fun z => h (by simp [z])]
theorem restE_len {old env : List Sl} : ∀ {vs : List Nat}, (restE old env vs).length = env.length
  | [] => rfl
  | v :: vs => by
    unfold restE
    split
    · rw [List.length_set, restE_len]
    · exact restE_len
theorem restE_in {old env : List Sl} {i : Nat} (hl : old.length = env.length) : ∀ {vs : List Nat}, i ∈ vs → (restE old env vs)[i]? = old[i]?
  | [], h => by simp at h
  | v :: vs, h => by
    unfold restE
    by_cases hv : v < old.length
    · rw [List.getElem?_eq_getElem hv]
      dsimp only
      by_cases e : v = i
      · subst e; rw [List.getElem?_set_self (by rw [restE_len, ← hl]; exact hv), List.getElem?_eq_getElem hv]
      · rw [List.getElem?_set_ne e]
        exact restE_in hl ((List.mem_cons.mp h).elim (fun z => absurd z.symm e) id)
    · rw [List.getElem?_eq_none (Nat.not_lt.mp hv)]
      dsimp only
      by_cases e : v = i
      · subst e
        rw [List.getElem?_eq_none (Nat.not_lt.mp hv), List.getElem?_eq_none (by rw [restE_len, ← hl]; exact Nat.not_lt.mp hv)]
      · exact restE_in hl ((List.mem_cons.mp h).elim (fun z => absurd z.symm e) id)
theorem restE_out {old env : List Sl} {i : Nat} : ∀ {vs : List Nat}, i ∉ vs → (restE old env vs)[i]? = env[i]?
  | [], _ => rfl
  | v :: vs, h => by
    unfold restE
    split
    · rw [List.getElem?_set_ne (fun z => h (by simp [z])), restE_out fun z => h (by simp [z])]
    · exact restE_out fun z => h (by simp [z])

def noX {α : Type} : Out α → Out α
  | .ok a e => .ok a e
  | _ => .bad
/-- nothing may be raised -/
abbrev W0 : WE := fun _ _ _ _ _ _ => False
def compD (t : Tg) (c : List Sl → Out Bool) (b : List Sl → Out D) (vs : List Nat) : List D → List Sl → Out (List D)
  | [], env => .ok [] env
  | x :: xs, env => (ofOpt (assT [] t x (wipeE env vs)) env).bind fun e _ => (noX (c e)).bind fun k e2 =>
      if k then (noX (b e2)).bind fun d e3 => (compD t c b vs xs e3).bind fun ds e4 => .ok (d :: ds) e4 else compD t c b vs xs e2
def mComp (t : Tg) (it : List Sl → Out (List D)) (c : List Sl → Out Bool) (b : List Sl → Out D) (vs : List Nat) (env : List Sl) : Out EV :=
  (it env).bind fun xs e1 => (compD t c b vs xs e1).bind fun ds e2 => .ok (.new (.lst ds)) (restE e1 e2 vs)

section
variable {G : Glo} {W : WE} {X : Cx} {pos : Pos}
/-- inside, where nothing may be raised -/
theorem Res.noX0 {α β : Type} {R : RG α β} {F H : Hp} {own : Nat → List Addr} {σ : L2.St} {o : Out α} {Q : β → Hp → Prop} (hn : noX o ≠ .bad) (h : ∀ r e, o = .ok r e → ∀ F' H' own' v, Step F H (Inn own) F' H' (Inn own') → ER G F' H' e σ own' → R (Fre own H) F' H' (Inn own') r v → Q v H') : Res G W0 R F H own σ o Q := by
  cases o with
  | ok r e => exact h r e rfl
  | exc c d e => exact absurd rfl hn
  | bad => exact absurd rfl hn
def ownW (own : Nat → List Addr) (vs : List Nat) : Nat → List Addr := fun i => if i ∈ vs then [] else own i
theorem ownW_in {own : Nat → List Addr} {vs : List Nat} {i : Nat} (h : i ∈ vs) : ownW own vs i = [] := if_pos h
theorem ownW_out {own : Nat → List Addr} {vs : List Nat} {i : Nat} (h : i ∉ vs) : ownW own vs i = own i := if_neg h
theorem ER.wiped {F H : Hp} {env : List Sl} {σ : L2.St} {own : Nat → List Addr} {vs : List Nat} (E : ER G F H env σ own) : ER G F H (wipeE env vs) (wipe σ vs) (ownW own vs) where
  tab := E.tab
  len := by rw [wipeE_len, wipe_length]; exact E.len
  rep := fun i s q => by
    by_cases hi : i ∈ vs
    · have hl : i < env.length := by rw [← wipeE_len (vs := vs)]; exact (List.getElem?_eq_some_iff.mp q).1
      rw [wipeE_in hl hi] at q; cases q
      exact ownW_in hi
    · rw [wipeE_out hi] at q
      rw [wipe_out hi, ownW_out hi]
      exact E.rep i s q
  out := fun i hi => by
    rw [wipeE_len] at hi
    by_cases h : i ∈ vs
    · exact ownW_in h
    · rw [ownW_out h]; exact E.out i hi
  sep := fun i j a h1 h2 => by
    by_cases hi : i ∈ vs
    · rw [ownW_in hi] at h1; simp at h1
    · by_cases hj : j ∈ vs
      · rw [ownW_in hj] at h2; simp at h2
      · rw [ownW_out hi] at h1; rw [ownW_out hj] at h2; exact E.sep i j a h1 h2
  nd := fun i => by
    by_cases hi : i ∈ vs
    · rw [ownW_in hi]; exact List.nodup_nil
    · rw [ownW_out hi]; exact E.nd i
  off := fun i a h => by
    by_cases hi : i ∈ vs
    · rw [ownW_in hi] at h; simp at h
    · rw [ownW_out hi] at h; exact E.off i a h
theorem inn_ownW {own : Nat → List Addr} {vs : List Nat} {a : Addr} (h : Inn (ownW own vs) a) : ∃ i, i ∉ vs ∧ a ∈ own i := by
  obtain ⟨i, hi⟩ := h
  by_cases h2 : i ∈ vs
  · rw [ownW_in h2] at hi; simp at hi
  · rw [ownW_out h2] at hi; exact ⟨i, h2, hi⟩
/-- wiping again -/
theorem ER.rewipe {F H : Hp} {env : List Sl} {σ σ2 : L2.St} {own : Nat → List Addr} {vs : List Nat} (E : ER G F H env σ2 own) (h : wipe σ2 vs = wipe σ vs) : ER G F H (wipeE env vs) (wipe σ vs) (ownW own vs) := by
  rw [← h]; exact E.wiped
def ownR (old own : Nat → List Addr) (vs : List Nat) : Nat → List Addr := fun i => if i ∈ vs then old i else own i
/-- behind the block the hidden slots are back -/
theorem ER.restored {F1 H1 F2 H2 : Hp} {e1 e2 : List Sl} {σ : L2.St} {own1 own2 : Nat → List Addr} {vs : List Nat} (E1 : ER G F1 H1 e1 σ own1) (E2 : ER G F2 H2 (wipeE e2 vs) (wipe σ vs) own2) (st : Step F1 H1 (Inn (ownW own1 vs)) F2 H2 (Inn own2)) (hl : e1.length = e2.length) :
    ER G F2 H2 (restE e1 e2 vs) σ (ownR own1 own2 vs) ∧ Step F1 H1 (Inn own1) F2 H2 (Inn (ownR own1 own2 vs)) := by
  have hid : ∀ i, i ∈ vs → ∀ a ∈ own1 i, ¬ Inn (ownW own1 vs) a := fun i hi a ha z => by
    obtain ⟨j, hj, hb⟩ := inn_ownW z
    exact hj (E1.sep i j a ha hb ▸ hi)
  have hid2 : ∀ i, i ∈ vs → ∀ a ∈ own1 i, ¬ Inn own2 a := fun i hi a ha z => by
    rcases st.own a z with y | y
    · exact hid i hi a ha y
    · obtain ⟨u, hu, _⟩ := E1.there ⟨i, ha⟩
      rw [hu] at y; cases y
  have z2 : ∀ i, i ∈ vs → own2 i = [] := fun i hi => by
    by_cases hl2 : i < e2.length
    · exact E2.rep i .un (wipeE_in hl2 hi)
    · exact E2.out i (by rw [wipeE_len]; exact Nat.not_lt.mp hl2)
  refine ⟨⟨?_, fun i s q => ?_, fun i hi => ?_, fun i j a h1 h2 => ?_, fun i => ?_, fun i a ha => ?_, E2.tab⟩, ⟨st.fz, st.sub, fun a u e n => st.fr a u e fun z => n ?_, fun a u e => ?_, fun a ha => ?_⟩⟩
  · have := E2.len
    rw [wipeE_len, wipe_length] at this
    rw [restE_len]; exact this
  · unfold ownR
    by_cases hi : i ∈ vs
    · rw [if_pos hi]
      rw [restE_in hl hi] at q
      exact (E1.rep i s q).keep st.fz fun a ha u hu => st.stay hu (hid i hi a ha) (by obtain ⟨u', hu', ow⟩ := E1.there ⟨i, ha⟩; rw [hu] at hu'; cases hu'; exact ow.ntb)
    · rw [if_neg hi]
      rw [restE_out hi] at q
      have r := E2.rep i s (by rw [wipeE_out hi]; exact q)
      rw [wipe_out hi] at r
      exact r
  · unfold ownR
    rw [restE_len] at hi
    by_cases h : i ∈ vs
    · rw [if_pos h]; exact E1.out i (hl ▸ hi)
    · rw [if_neg h]; exact E2.out i (by rw [wipeE_len]; exact hi)
  · unfold ownR at h1 h2
    by_cases hi : i ∈ vs
    · rw [if_pos hi] at h1
      by_cases hj : j ∈ vs
      · rw [if_pos hj] at h2; exact E1.sep i j a h1 h2
      · rw [if_neg hj] at h2; exact absurd ⟨j, h2⟩ (hid2 i hi a h1)
    · rw [if_neg hi] at h1
      by_cases hj : j ∈ vs
      · rw [if_pos hj] at h2; exact absurd ⟨i, h1⟩ (hid2 j hj a h2)
      · rw [if_neg hj] at h2; exact E2.sep i j a h1 h2
  · unfold ownR
    by_cases hi : i ∈ vs
    · rw [if_pos hi]; exact E1.nd i
    · rw [if_neg hi]; exact E2.nd i
  · unfold ownR at ha
    by_cases hi : i ∈ vs
    · rw [if_pos hi] at ha
      obtain ⟨w, hw, ow⟩ := E1.there ⟨i, ha⟩
      exact st.thaw hw ow (E1.off i a ha) (hid i hi a ha)
    · rw [if_neg hi] at ha; exact E2.off i a ha
  · obtain ⟨i, _, hi⟩ := inn_ownW z; exact ⟨i, hi⟩
  · rcases st.new a u e with y | y | y
    · exact .inl y
    · obtain ⟨i, _, hi⟩ := inn_ownW y; exact .inr (.inl ⟨i, hi⟩)
    · exact .inr (.inr y)
  · obtain ⟨i, hi⟩ := ha
    unfold ownR at hi
    by_cases h : i ∈ vs
    · rw [if_pos h] at hi; exact .inl ⟨i, hi⟩
    · rw [if_neg h] at hi
      rcases st.own a ⟨i, hi⟩ with y | y
      · obtain ⟨j, _, hj⟩ := inn_ownW y; exact .inl ⟨j, hj⟩
      · exact .inr y
theorem wipe_eq {σ σ2 : L2.St} {vs : List Nat} (hl : σ2.length = σ.length) (h : ∀ i, i ∉ vs → σ2[i]? = (wipe σ vs)[i]?) : wipe σ2 vs = wipe σ vs := by
  refine List.ext_getElem? fun i => ?_
  by_cases hi : i ∈ vs
  · have key : ∀ τ : L2.St, τ.length = σ.length → (wipe τ vs)[i]? = if i < σ.length then some none else none := fun τ ht => by
      have gen : ∀ (ws : List Nat), i ∈ ws → (wipe τ ws)[i]? = if i < σ.length then some none else none := fun ws => by
        induction ws with
        | nil => intro h; simp at h
        | cons v ws ih =>
          intro hm
          unfold wipe
          by_cases e : v = i
          · subst e
            by_cases hv : v < σ.length
            · rw [List.getElem?_set_self (by rw [wipe_length, ht]; exact hv), if_pos hv]
            · rw [if_neg hv, List.getElem?_eq_none (by rw [List.length_set, wipe_length, ht]; exact Nat.not_lt.mp hv)]
          · rw [List.getElem?_set_ne e]
            exact ih ((List.mem_cons.mp hm).elim (fun z => absurd z.symm e) id)
      exact gen vs hi
    rw [key σ2 hl, key σ rfl]
  · rw [wipe_out hi, h i hi]
end
end PyI

set_option Elab.async false
set_option linter.all false
set_option maxRecDepth 100000
/-! PyI: comprehensions. -/
namespace PyI
open PySem PySem.Spec L2
set_option autoImplicit false
theorem noX_bind {α β : Type} {o : Out α} {f : α → List Sl → Out β} (h : (noX o).bind f ≠ .bad) : noX o ≠ .bad := fun z => by rw [z] at h; exact h rfl
theorem Res.notBad {α β : Type} {G : Glo} {W : WE} {R : RG α β} {F H : Hp} {own : Nat → List Addr} {σ : L2.St} {o : Out α} {Q : β → Hp → Prop} (h : Res G W R F H own σ o Q) : o ≠ .bad := fun z => by rw [z] at h; exact h
theorem bind_notBad {α β : Type} {o : Out α} {f : α → List Sl → Out β} (h : o.bind f ≠ .bad) : o ≠ .bad := fun z => by rw [z] at h; exact h rfl
/-- the list that is being made is no business of the block's -/
theorem keep_off {F H F' H' : Hp} {A A' : Addr → Prop} {D : Addr} {o : HO} (st : Step F H A F' H' A') (h : H D = some o) (ow : Ow o) (f : F D = none) (n : ¬ A D) : H' D = some o ∧ F' D = none ∧ ¬ A' D := by
  refine ⟨st.stay h n ow.ntb, st.thaw h ow f n, fun z => ?_⟩
  · rcases st.own D z with y | y
    · exact n y
    · rw [h] at y; cases y
theorem Step.putOff {F H F' H' : Hp} {A A' : Addr → Prop} {D : Addr} {o : HO} (st : Step F H A F' H' A') (h : H D = none) (f : F' D = none) : Step F H A F' (upd H' D o) A' where
  fz := st.fz
  sub := fun a u e => by
    have ne : a ≠ D := fun z => by rw [z, f] at e; cases e
    rw [upd_ne ne]; exact st.sub a u e
  fr := fun a u e n => by
    have ne : a ≠ D := fun z => by rw [z, h] at e; cases e
    rw [upd_ne ne]; exact st.fr a u e n
  new := st.new
  own := st.own
theorem ER.putOff {G : Glo} {F H : Hp} {env : List Sl} {σ : L2.St} {own : Nat → List Addr} {D : Addr} {o : HO} (E : ER G F H env σ own) (n : ¬ Inn own D) (ow : ∀ u, H D = some u → Ow u) : ER G F (upd H D o) env σ own :=
  E.keep (Same.refl F) (fun a ha u hu => by
    have ne : a ≠ D := fun z => n (z ▸ ha)
    rw [upd_ne ne]; exact hu) (fun a ha => by obtain ⟨i, hi⟩ := ha; exact E.off i a hi) (tabs_keep E.tab (fun b u hb hu => by
    have ne : b ≠ D := fun z => by subst z; exact hu (ow u hb)
    rw [upd_ne ne]; exact hb) fun _ _ e => .inl e)
section
variable {G : Glo} {W : WE} {X : Cx} {pos : Pos}
theorem comp_rd {t : Tg} {it : List Sl → Out (List D)} {mc : List Sl → Out Bool} {mb : List Sl → Out D} {vs : List Nat} (hsl : ∀ i ∈ t.slots, i ∈ vs) {σ : L2.St} {H : Hp} {Q : VK} (h : tM G W (mComp t it mc mb vs) σ H Q) :
    tLc (tI G W it) (tTg G [] t) (tTs G W0 mc) (tD G W0 mb) vs σ H Q := by
  obtain ⟨F, own, env, hs, E, q⟩ := h
  refine ⟨F, own, env, hs, E, ?_⟩
  have q' : Res G W (rEV G σ) F H own σ ((it env).bind fun xs e1 => (compD t mc mb vs xs e1).bind fun ds e2 => .ok (.new (.lst ds)) (restE e1 e2 vs)) Q := q
  cases hit : it env with
  | bad => rw [hit] at q'; exact q'
  | exc c d e1 => rw [hit] at q'; exact q'
  | ok xs e1 =>
    rw [hit] at q'
    intro F1 H1 own1 J st E1 src D nD
    obtain ⟨hz, Gd, Y, w, g1, g2⟩ := src
    refine lc_it w (Qd := Q (.ref D)) (fun i H2 => ∃ F2 own2 e2 acc vacc, e2.length = e1.length ∧ Step F1 H1 (Inn (ownW own1 vs)) F2 H2 (Inn own2) ∧ ER G F2 H2 (wipeE e2 vs) (wipe σ vs) own2 ∧ H2 D = some (.lst vacc) ∧ F2 D = none ∧ ¬ Inn own2 D ∧ RepL G F2 acc vacc ∧ acc.length ≤ i ∧
      Res G W (rEV G σ) F H own σ ((compD t mc mb vs (xs.drop i) e2).bind fun ds e' => .ok (.new (.lst (acc ++ ds))) (restE e1 e' vs)) Q) ?_ ?_ ?_ ?_
    · have p := Pure.lay (F := F1) (o := .lst []) st.sub nD
      have Ew := E1.wiped (vs := vs)
      refine ⟨F1, ownW own1 vs, e1, [], [], rfl, p.step (G := G) (env := e1) (σ := σ), p.er Ew, upd_same, st.sub.free nD, fun z => ?_, .nil, Nat.le_refl _, q'⟩
      obtain ⟨u, hu, _⟩ := Ew.there z
      rw [nD] at hu; cases hu
    · rintro i H2 _ ⟨F2, own2, e2, acc, vacc, _, st2, _⟩
      exact g1 H2 (st2.fz.trans st2.sub)
    · rintro i v H2 H2' hi ⟨F2, own2, e2, acc, vacc, l2, st2, E2, hD, fD, nO, rl, la, q2⟩ y
      obtain ⟨F2', x, p, hx, rx⟩ := g2 i H2 v H2' F2 st2.fz st2.sub hi y
      have hd : xs.drop i = x :: xs.drop (i + 1) := by
        obtain ⟨h1, h2⟩ := List.getElem?_eq_some_iff.mp hx
        rw [← h2]; exact List.drop_eq_getElem_cons h1
      rw [hd] at q2
      unfold compD at q2
      cases ha : assT [] t x (wipeE e2 vs) with
      | none => rw [ha] at q2; exact q2.elim
      | some e3 =>
        rw [ha] at q2
        have q3 : Res G W (rEV G σ) F H own σ (((noX (mc e3)).bind fun k e2 => if k = true then (noX (mb e2)).bind fun d e3 => (compD t mc mb vs (xs.drop (i + 1)) e3).bind fun ds e4 => .ok (d :: ds) e4 else compD t mc mb vs (xs.drop (i + 1)) e2).bind fun ds e' => .ok (.new (.lst (acc ++ ds))) (restE e1 e' vs)) Q := q2
        have p1 := p.step (G := G) (env := wipeE e2 vs) (σ := wipe σ vs) (own := own2)
        refine ⟨F2', own2, wipeE e2 vs, x, e3, p.sub, p.er E2, rx, ha, fun σ3 own3 E3 k3 l3 s3 _ => ?_⟩
        have st3 : Step F2 H2 (Inn own2) F2' H2' (Inn own3) := p1.own' fun a z => .inl (k3 a z)
        have hw : wipe σ3 vs = wipe σ vs := wipe_eq (l3.trans (wipe_length σ vs)) fun j hj => s3 j fun z => hj (hsl j z)
        refine ⟨hw, F2', own3, e3, p.sub, E3, Res.noX0 (noX_bind (bind_notBad q3.notBad)) fun k e4 hk F4 H4 own4 b st4 E4 hb => ?_⟩
        have hb : k = b := hb
        subst hb
        rw [hk] at q3
        have D4 := keep_off (st3.trans st4) hD (.inl ⟨_, rfl⟩) fD nO
        have s4 := (st2.trans st3).trans st4
        have len4 : e4.length = e1.length := by rw [E4.len, l3, wipe_length, ← E1.len]
        cases k with
        | false =>
          rw [if_neg Bool.false_ne_true]
          refine ⟨F4, ownW own4 vs, e4, acc, vacc, len4, s4.own' fun a z => ?_, E4.rewipe hw, D4.1, D4.2.1, fun z => ?_, RepL.mono (st3.fz.trans st4.fz) _ _ rl, Nat.le_succ_of_le la, q3⟩
          · obtain ⟨j, _, hj⟩ := inn_ownW z; exact .inl ⟨j, hj⟩
          · obtain ⟨j, _, hj⟩ := inn_ownW z; exact D4.2.2 ⟨j, hj⟩
        | true =>
          rw [if_pos rfl]
          have q4 : Res G W (rEV G σ) F H own σ (((noX (mb e4)).bind fun d e3 => (compD t mc mb vs (xs.drop (i + 1)) e3).bind fun ds e4 => .ok (d :: ds) e4).bind fun ds e' => .ok (.new (.lst (acc ++ ds))) (restE e1 e' vs)) Q := q3
          refine ⟨F4, own4, e4, st4.sub, E4, Res.noX0 (noX_bind (bind_notBad q4.notBad)) fun d e5 hd5 F5 H5 own5 yv st5 E5 ry => ?_⟩
          rw [hd5] at q4
          have ry : Rep G F5 d yv := ry
          have D5 := keep_off st5 D4.1 (.inl ⟨_, rfl⟩) D4.2.1 D4.2.2
          have s5 := s4.trans st5
          have len5 : e5.length = e1.length := by rw [E5.len, l3, wipe_length, ← E1.len]
          have nW : ¬ Inn (ownW own5 vs) D := fun z => by obtain ⟨j, _, hj⟩ := inn_ownW z; exact D5.2.2 ⟨j, hj⟩
          have rl5 := RepL.mono (st3.fz.trans (st4.fz.trans st5.fz)) _ _ rl
          refine ⟨vacc, D5.1, ?_, F5, ownW own5 vs, e5, acc ++ [d], vacc ++ [yv], len5, Step.putOff (s5.own' fun a z => ?_) nD D5.2.1, (E5.rewipe hw).putOff nW (fun u hu => by rw [D5.1] at hu; cases hu; exact .inl ⟨_, rfl⟩), upd_same, D5.2.1, nW, RepL.append rl5 (.cons ry .nil), by simp; exact la, ?_⟩
          · rw [← rl.length]; exact Nat.lt_of_le_of_lt la (Nat.lt_of_lt_of_le hi hz)
          · obtain ⟨j, _, hj⟩ := inn_ownW z; exact .inl ⟨j, hj⟩
          · revert q4
            show Res G W (rEV G σ) F H own σ (((compD t mc mb vs (xs.drop (i + 1)) e5).bind fun ds e4 => .ok (d :: ds) e4).bind fun ds e' => .ok (.new (.lst (acc ++ ds))) (restE e1 e' vs)) Q → _
            cases compD t mc mb vs (xs.drop (i + 1)) e5 with
            | bad => exact fun z => z
            | exc c d e6 => exact fun z => z
            | ok ds e6 =>
              intro z
              show Res G W (rEV G σ) F H own σ (.ok (.new (.lst (acc ++ [d] ++ ds))) (restE e1 e6 vs)) Q
              rw [List.append_assoc]
              exact z
    · rintro H2 ⟨F2, own2, e2, acc, vacc, l2, st2, E2, hD, fD, nO, rl, la, q2⟩
      rw [List.drop_of_length_le (Nat.le_refl _)] at q2
      have q3 : Res G W (rEV G σ) F H own σ (.ok (.new (.lst (acc ++ []))) (restE e1 e2 vs)) Q := q2
      rw [List.append_nil] at q3
      obtain ⟨E3, st3⟩ := E1.restored E2 st2 l2.symm
      refine q3 F2 H2 _ (.ref D) (st.trans st3) E3 ⟨[D], ⟨D, vacc, rfl, rfl, hD, rl⟩, by simp, fun a ha => ?_⟩
      have e : a = D := by simpa using ha
      subst e
      refine ⟨fD, fun z => ?_, st.fre (.inr nD)⟩
      obtain ⟨j, hj⟩ := z
      unfold ownR at hj
      split at hj
      · obtain ⟨u, hu, _⟩ := E1.there ⟨j, hj⟩
        rw [nD] at hu; cases hu
      · exact nO ⟨j, hj⟩
theorem s_comp {elt tg iter : Expr} {ifs : List Expr} {scope : Scope} {own : List (Str × Nat)} {t : Tg} {it : List Sl → Out (List D)} {mc : List Sl → Out Bool} {mb : List Sl → Out D} (hc : X.calm = true) (hN : X.N.Nodup) (hi : PI X tg iter (tI G W it)) (ok : BlkOk X.N X.env.scope scope own)
    (hg : ∀ (s : Shared) (H : Hp) (C : Addr) (cl : List (Str × Addr)) (fp : List Addr), PG (X.blk s H scope (compEnvC scope cl C X.env) fp) tg (tTg G [] t)) (ht : ∀ (s : Shared) (H : Hp) (C : Addr) (cl : List (Str × Addr)) (fp : List Addr), PTs (X.blk s H scope (compEnvC scope cl C X.env) fp) ifs (tTs G W0 mc))
    (he : ∀ (s : Shared) (H : Hp) (C : Addr) (cl : List (Str × Addr)) (fp : List Addr), PE (X.blk s H scope (compEnvC scope cl C X.env) fp) elt (tD G W0 mb)) (hs : ∀ x, foldedSetIterable iter X.env x = pure x) (hsl : ∀ i ∈ t.slots, i ∈ own.map (·.2)) :
    PE X (.ListComp elt [⟨tg, iter, ifs, 0⟩] scope pos) (tM G W (mComp t it mc mb (own.map (·.2)))) :=
  (pe_lc hc hN hi ok hg ht he hs).weak fun σ H Q h => comp_rd hsl h
/-- name = [..] -/
theorem st_setLc {lk : List Nat} {i : Nat} {y : Str} {py : Pos} {elt tg iter : Expr} {ifs : List Expr} {scope : Scope} {own : List (Str × Nat)} {spos : Pos} {t : Tg} {it : List Sl → Out (List D)} {mc : List Sl → Out Bool} {mb : List Sl → Out D} (hc : X.calm = true) (hN : X.N.Nodup) (hy : X.N[i]? = some y) (hyl : X.env.scope.names.lookup y = some .local)
    (hsw : swapsWith (.ListComp elt [⟨tg, iter, ifs, 0⟩] scope pos) (some (.Name y py)) spos.line X.env = pure true) (hi : PI X tg iter (tI G W it)) (ok : BlkOk X.N X.env.scope scope own)
    (hg : ∀ (s : Shared) (H : Hp) (C : Addr) (cl : List (Str × Addr)) (fp : List Addr), PG (X.blk s H scope (compEnvC scope cl C X.env) fp) tg (tTg G [] t)) (ht : ∀ (s : Shared) (H : Hp) (C : Addr) (cl : List (Str × Addr)) (fp : List Addr), PTs (X.blk s H scope (compEnvC scope cl C X.env) fp) ifs (tTs G W0 mc))
    (he : ∀ (s : Shared) (H : Hp) (C : Addr) (cl : List (Str × Addr)) (fp : List Addr), PE (X.blk s H scope (compEnvC scope cl C X.env) fp) elt (tD G W0 mb)) (hs : ∀ x, foldedSetIterable iter X.env x = pure x) (hsl : ∀ i ∈ t.slots, i ∈ own.map (·.2)) :
    PS X (.Assign [.Name y py] (.ListComp elt [⟨tg, iter, ifs, 0⟩] scope pos) spos) (tS G W lk (mSet lk i (mComp t it mc mb (own.map (·.2))))) :=
  (ps_setLc hc hN hy hyl hsw hi ok hg ht he hs).weak fun D σ H ⟨F, own0, env, hs, E, q⟩ => comp_rd hsl ⟨F, own0, env, hs, E, ResS.bindE q fun r e1 F1 H1 own1 v st E1 rr q0 q1 => by
    cases h1 : setSl lk i (toSl r) e1 with
    | none => rw [h1] at q0; exact q0.elim
    | some e2 =>
      rw [h1] at q0
      obtain ⟨own2, E2, kp, k⟩ := E1.store st.sub rr h1
      exact q0 F1 H1 own2 _ (st.own' k) E2 kp⟩
end
end PyI

set_option Elab.async false
set_option linter.all false
set_option maxRecDepth 100000
/-! PyI: defs and calls. -/
namespace PyI
open PySem PySem.Spec L2
set_option autoImplicit false

/-! ### exceptions that leave -/
/-- how an error of the program's own lies: its class's number, its value -/
def XRep (G : Glo) (F H : Hp) (c : Nat) (d : D) (cls : Value) (dd : Option Addr) : Prop := ∃ C a fs v, G.cls c = some C ∧ cls = .ref C ∧ dd = some a ∧ H a = some (.xd fs) ∧ fs.lookup ("value" : Str) = some v ∧ Rep G F d v
/-- a def's wish -/
def wE (G : Glo) (E : XK) : WE := fun c d F H _ _ => ∀ cls dd, XRep G F H c d cls dd → E cls dd H
/-- the wish of a body, as its callees want it -/
def EW (G : Glo) (W : WE) : XK := fun cls dd H => ∃ c d F env own, XRep G F H c d cls dd ∧ W c d F H env own
abbrev TkW (X : Cx) (G : Glo) (W : WE) : Prop := Takes X fun cls d _ H => EW G W cls d H
theorem tkW0 {X : Cx} {G : Glo} : TkW X G W0 := takes0.imp fun _ _ _ _ h => by
  obtain ⟨_, _, _, _, _, _, z⟩ := h
  exact z
theorem passW {X : Cx} {G : Glo} {W : WE} (t : TkW X G W) : Passes (L2.CX X.prog X.w) X (EW G W) := passes_call t fun _ _ _ _ h => h

/-! ### arguments of a call -/
def resA (e : List Sl) : Ar → Option (Sl × Option Nat)
  | .dat d => some (.d d, none)
  | .slot i => match e[i]? with
    | some (.own o) => some (.own o, some i)
    | some (.d x) => some (.d x, none)
    | _ => none
def resAs (e : List Sl) : List Ar → Option (List (Sl × Option Nat))
  | [] => some []
  | x :: xs => (resA e x).bind fun p => (resAs e xs).bind fun r => some (p :: r)
def putB : List (Option Nat) → List Sl → List Sl → List Sl
  | some i :: ls, s :: ss, env => putB ls ss (env.set i s)
  | none :: ls, _ :: ss, env => putB ls ss env
  | _, _, env => env
theorem putB_len : ∀ {ls : List (Option Nat)} {ss env : List Sl}, (putB ls ss env).length = env.length
  | [], _, _ => by unfold putB; rfl
  | some i :: ls, [], _ => by unfold putB; rfl
  | none :: ls, [], _ => by unfold putB; rfl
  | some i :: ls, s :: ss, env => by unfold putB; rw [putB_len, List.length_set]
  | none :: ls, s :: ss, env => by unfold putB; rw [putB_len]
theorem putB_out {i : Nat} : ∀ {ls : List (Option Nat)} {ss env : List Sl}, some i ∉ ls → (putB ls ss env)[i]? = env[i]?
  | [], _, _, _ => by unfold putB; rfl
  | some j :: ls, [], _, _ => by unfold putB; rfl
  | none :: ls, [], _, _ => by unfold putB; rfl
  | some j :: ls, s :: ss, env, h => by
    unfold putB
    rw [putB_out fun z => h (by simp [z]), List.getElem?_set_ne fun z => h (by simp [z])]
  | none :: ls, s :: ss, env, h => by
    unfold putB
    rw [putB_out fun z => h (by simp [z])]
theorem putB_in {i : Nat} {s : Sl} : ∀ {ls : List (Option Nat)} {ss env : List Sl} {j : Nat}, (ls.filterMap id).Nodup → ls[j]? = some (some i) → ss[j]? = some s → i < env.length → (putB ls ss env)[i]? = some s
  | [], _, _, _, _, h, _, _ => by simp at h
  | _ :: _, [], _, _, _, _, h, _ => by simp at h
  | some k :: ls, s0 :: ss, env, 0, nd, h1, h2, hi => by
    simp at h1 h2
    subst h1 h2
    unfold putB
    have hn : some k ∉ ls := fun z => by
      simp only [List.filterMap_cons, id] at nd
      exact (List.nodup_cons.mp nd).1 (List.mem_filterMap.mpr ⟨some k, z, rfl⟩)
    rw [putB_out hn, List.getElem?_set_self hi]
  | none :: ls, s0 :: ss, env, 0, nd, h1, h2, hi => by simp at h1
  | some k :: ls, s0 :: ss, env, j + 1, nd, h1, h2, hi => by
    unfold putB
    simp only [List.filterMap_cons, id] at nd
    exact putB_in (j := j) (List.nodup_cons.mp nd).2 (by simpa using h1) (by simpa using h2) (by rw [List.length_set]; exact hi)
  | none :: ls, s0 :: ss, env, j + 1, nd, h1, h2, hi => by
    unfold putB
    simp only [List.filterMap_cons, id] at nd
    exact putB_in (j := j) nd (by simpa using h1) (by simpa using h2) hi
def callA (f : List Sl → Out EV) (xs : List Ar) (e : List Sl) : Out EV :=
  match resAs e xs with
  | none => .bad
  | some ps => if ((ps.map (·.2)).filterMap id).Nodup then match f (ps.map (·.1)) with
      | .ok r args => .ok r (putB (ps.map (·.2)) args e)
      | .exc c d args => .exc c d (putB (ps.map (·.2)) args e)
      | .bad => .bad
    else .bad
def mCall (f : List Sl → Out EV) (ms : List Sl → Out (List Ar)) (env : List Sl) : Out EV := (ms env).bind fun xs e => callA f xs e

/-- a def's promise -/
def spF (G : Glo) (np : Nat) (f : List Sl → Out EV) : Sp := fun vs H Q E => ∃ F own args, args.length = np ∧ Same F H ∧ ER G F H args (vs.map some) own ∧ Res G (wE G E) (rEV G (vs.map some)) F H own (vs.map some) (f args) Q
theorem spF_len {G : Glo} {np : Nat} {f : List Sl → Out EV} {vs : List V} {H : Hp} {Q : VK} {E : XK} (h : spF G np f vs H Q E) : vs.length = np := by
  obtain ⟨F, own, args, h1, _, h2, _⟩ := h
  have := h2.len
  rw [List.length_map] at this
  omega

section
variable {G : Glo} {W : WE}
theorem resAs_rep {F H : Hp} {e : List Sl} {σ : L2.St} {own : Nat → List Addr} (E : ER G F H e σ own) : ∀ {xs : List Ar} {vs : List V} {ps : List (Sl × Option Nat)}, ArReps G F σ xs vs → resAs e xs = some ps →
    ps.length = vs.length ∧ ∀ (j : Nat) (s : Sl) (l : Option Nat), ps[j]? = some (s, l) → (l = none ∧ SlRep G F H s (vs[j]?.map some) []) ∨ ∃ i, l = some i ∧ σ[i]? = vs[j]?.map some ∧ e[i]? = some s ∧ i < e.length ∧ SlRep G F H s (vs[j]?.map some) (own i)
  | [], vs, ps, r, h => by
    unfold resAs at h; cases h
    unfold ArReps at r; subst r
    exact ⟨rfl, fun j s l h => by simp at h⟩
  | x :: xs, vs, ps, r, h => by
    unfold resAs at h
    unfold ArReps at r
    obtain ⟨v, t, rfl, r1, r2⟩ := r
    cases h1 : resA e x with
    | none => rw [h1] at h; cases h
    | some p =>
      rw [h1] at h
      cases h2 : resAs e xs with
      | none => rw [h2] at h; cases h
      | some ps' =>
        rw [h2] at h; cases h
        obtain ⟨hl, hk⟩ := resAs_rep E r2 h2
        refine ⟨by simp [hl], fun j s l hj => ?_⟩
        cases j with
        | succ j => simpa using hk j s l (by simpa using hj)
        | zero =>
          simp at hj
          subst hj
          cases x with
          | dat d =>
            unfold resA at h1; cases h1
            exact .inl ⟨rfl, rfl, v, rfl, r1⟩
          | slot i =>
            have r1 : σ[i]? = some (some v) := r1
            unfold resA at h1
            dsimp only at h1
            cases q : e[i]? with
            | none => rw [q] at h1; cases h1
            | some s0 =>
              rw [q] at h1
              have R := E.rep i s0 q
              cases s0 with
              | un => cases h1
              | d y =>
                cases h1
                obtain ⟨_, u, hu, hr⟩ := R
                rw [r1] at hu; cases hu
                exact .inl ⟨rfl, rfl, v, rfl, hr⟩
              | own o =>
                cases h1
                refine .inr ⟨i, rfl, r1, q, (List.getElem?_eq_some_iff.mp q).1, ?_⟩
                rw [r1] at R
                exact R
def ownC (own : Nat → List Addr) (ls : List (Option Nat)) : Nat → List Addr := fun j => match ls[j]? with
  | some (some i) => own i
  | _ => []
theorem ownC_some {own : Nat → List Addr} {ls : List (Option Nat)} {j i : Nat} (h : ls[j]? = some (some i)) : ownC own ls j = own i := by unfold ownC; rw [h]
theorem ownC_in {own : Nat → List Addr} {ls : List (Option Nat)} {j : Nat} {a : Addr} (h : a ∈ ownC own ls j) : ∃ i, ls[j]? = some (some i) ∧ a ∈ own i := by
  unfold ownC at h
  split at h
  · rename_i i hi; exact ⟨i, hi, h⟩
  · simp at h
theorem nodup_ix' {i : Nat} : ∀ {ls : List (Option Nat)} {j k : Nat}, (ls.filterMap id).Nodup → ls[j]? = some (some i) → ls[k]? = some (some i) → j = k
  | [], _, _, _, h, _ => by simp at h
  | x :: ls, 0, 0, _, _, _ => rfl
  | x :: ls, 0, k + 1, nd, h1, h2 => by
    simp at h1; subst h1
    simp only [List.filterMap_cons, id] at nd
    exact absurd (List.mem_filterMap (f := id).mpr ⟨some i, List.mem_of_getElem? (by simpa using h2), rfl⟩) (List.nodup_cons.mp nd).1
  | x :: ls, j + 1, 0, nd, h1, h2 => by
    simp at h2; subst h2
    simp only [List.filterMap_cons, id] at nd
    exact absurd (List.mem_filterMap (f := id).mpr ⟨some i, List.mem_of_getElem? (by simpa using h1), rfl⟩) (List.nodup_cons.mp nd).1
  | x :: ls, j + 1, k + 1, nd, h1, h2 => by
    have nd' : (ls.filterMap id).Nodup := by
      cases x with
      | none => simpa only [List.filterMap_cons, id] using nd
      | some y => simp only [List.filterMap_cons, id] at nd; exact (List.nodup_cons.mp nd).2
    rw [nodup_ix' (j := j) (k := k) nd' (by simpa using h1) (by simpa using h2)]
def ownP (own ownc : Nat → List Addr) (ls : List (Option Nat)) : Nat → List Addr := fun i => match ls.findIdx? (· == some i) with
  | some j => ownc j
  | none => own i
theorem ownP_in {own ownc : Nat → List Addr} {ls : List (Option Nat)} {i j : Nat} (nd : (ls.filterMap id).Nodup) (h : ls[j]? = some (some i)) : ownP own ownc ls i = ownc j := by
  unfold ownP
  cases q : ls.findIdx? (· == some i) with
  | none =>
    rw [List.findIdx?_eq_none_iff] at q
    have := q (some i) (List.mem_of_getElem? h)
    simp at this
  | some k =>
    rw [List.findIdx?_eq_some_iff_getElem] at q
    obtain ⟨hk, he, _⟩ := q
    have e : ls[k]? = some (some i) := by
      rw [List.getElem?_eq_getElem hk]
      simpa using he
    rw [nodup_ix' nd h e]
theorem ownP_out {own ownc : Nat → List Addr} {ls : List (Option Nat)} {i : Nat} (h : some i ∉ ls) : ownP own ownc ls i = own i := by
  unfold ownP
  rw [show ls.findIdx? (· == some i) = none from List.findIdx?_eq_none_iff.mpr fun x hx => by
    cases hb : (x == some i) with
    | false => rfl
    | true =>
      have e : x = some i := by simpa using hb
      rw [e] at hx
      exact absurd hx h]
end

section
variable {G : Glo} {W : WE}
/-- the call's reading -/
theorem callA_rd {f : List Sl → Out EV} {np : Nat} (hb : ∀ args : List Sl, args.length ≠ np → f args = .bad) {F H : Hp} {e : List Sl} {σ : L2.St} {own : Nat → List Addr} {xs : List Ar} {vs : List V} {Q : VK} (hs : Same F H) (E : ER G F H e σ own) (rx : ArReps G F σ xs vs)
    (q : Res G W (rEV G σ) F H own σ (callA f xs e) Q) : spF G np f vs H Q (EW G W) := by
  unfold callA at q
  cases hp : resAs e xs with
  | none => rw [hp] at q; exact q.elim
  | some ps =>
    rw [hp] at q
    dsimp only at q
    generalize hls : ps.map (·.2) = ls at q
    generalize hss : ps.map (·.1) = args at q
    obtain ⟨hl, hk⟩ := resAs_rep E rx hp
    by_cases nd : (ls.filterMap id).Nodup
    · rw [if_pos nd] at q
      have la : args.length = vs.length := by rw [← hss, List.length_map, hl]
      have getl : ∀ j l, ls[j]? = some l → ∃ s, ps[j]? = some (s, l) ∧ args[j]? = some s := fun j l h => by
        rw [← hls, List.getElem?_map] at h
        cases hq : ps[j]? with
        | none => rw [hq] at h; cases h
        | some p => rw [hq] at h; cases h; exact ⟨p.1, hq, by rw [← hss, List.getElem?_map, hq]; rfl⟩
      have lend : ∀ j i, ls[j]? = some (some i) → σ[i]? = vs[j]?.map some ∧ i < e.length ∧ j < vs.length := fun j i h => by
        obtain ⟨s, h1, h2⟩ := getl j _ h
        rcases hk j s _ h1 with ⟨z, _⟩ | ⟨i', z, h3, h4, h5, h6⟩
        · cases z
        · cases z
          exact ⟨h3, h5, by rw [← hl]; exact (List.getElem?_eq_some_iff.mp h1).1⟩
      have Ec : ER G F H args (vs.map some) (ownC own ls) := {
        tab := E.tab
        len := by rw [la, List.length_map]
        rep := fun j s h => by
          have h' : (ps.map (·.1))[j]? = some s := by rw [hss]; exact h
          rw [List.getElem?_map] at h'
          cases hq : ps[j]? with
          | none => rw [hq] at h'; cases h'
          | some p =>
            rw [hq] at h'; cases h'
            obtain ⟨s, l⟩ := p
            rw [List.getElem?_map]
            have hlj : ls[j]? = some l := by rw [← hls, List.getElem?_map, hq]; rfl
            rcases hk j s l hq with ⟨rfl, h6⟩ | ⟨i, rfl, h3, h4, h5, h6⟩
            · have z : ownC own ls j = [] := by unfold ownC; rw [hlj]
              rw [z]; exact h6
            · rw [ownC_some hlj]; exact h6
        out := fun j h => by
          have z : ls[j]? = none := by
            rw [List.getElem?_eq_none_iff, ← hls, List.length_map, hl, ← la]; exact h
          unfold ownC; rw [z]
        sep := fun j k a h1 h2 => by
          obtain ⟨i1, e1, m1⟩ := ownC_in h1
          obtain ⟨i2, e2, m2⟩ := ownC_in h2
          have := E.sep i1 i2 a m1 m2
          subst this
          exact nodup_ix' nd e1 e2
        nd := fun j => by
          cases hq : ls[j]? with
          | none => unfold ownC; rw [hq]; exact List.nodup_nil
          | some l =>
            cases l with
            | none => unfold ownC; rw [hq]; exact List.nodup_nil
            | some i => rw [ownC_some hq]; exact E.nd i
        off := fun j a h => by
          obtain ⟨i, _, m⟩ := ownC_in h
          exact E.off i a m }
      have inn : ∀ a, Inn (ownC own ls) a → Inn own a := fun a ⟨j, h⟩ => let ⟨i, _, m⟩ := ownC_in h; ⟨i, m⟩
      -- back in the caller
      have back : ∀ (args' : List Sl) F' H' ownc', Step F H (Inn (ownC own ls)) F' H' (Inn ownc') → ER G F' H' args' (vs.map some) ownc' →
          Step F H (Inn own) F' H' (Inn (ownP own ownc' ls)) ∧ ER G F' H' (putB ls args' e) σ (ownP own ownc' ls) ∧ (∀ a, Inn (ownP own ownc' ls) a → Inn ownc' a ∨ (Inn own a ∧ ¬ Inn (ownC own ls) a)) := fun args' F' H' ownc' st Ea => by
        have lenA : args'.length = vs.length := by have := Ea.len; rw [List.length_map] at this; exact this
        have notc : ∀ i, some i ∉ ls → ∀ a ∈ own i, ¬ Inn (ownC own ls) a := fun i hi a ha ⟨j, hj⟩ => by
          obtain ⟨i2, e2, m2⟩ := ownC_in hj
          have := E.sep i i2 a ha m2
          subst this
          exact hi (List.mem_of_getElem? e2)
        have kept : ∀ i, some i ∉ ls → ∀ a ∈ own i, ∀ o, H a = some o → H' a = some o := fun i hi a ha o ho => st.stay ho (notc i hi a ha) (by obtain ⟨u', hu', ow⟩ := E.there ⟨i, ha⟩; rw [ho] at hu'; cases hu'; exact ow.ntb)
        have offk : ∀ i, some i ∉ ls → ∀ a ∈ own i, F' a = none := fun i hi a ha => by
          obtain ⟨w, hw, ow⟩ := E.there ⟨i, ha⟩
          exact st.thaw hw ow (E.off i a ha) (notc i hi a ha)
        have cne : ∀ i, some i ∉ ls → ∀ a ∈ own i, ¬ Inn ownc' a := fun i hi a ha z => by
          obtain ⟨w, hw, _⟩ := E.there ⟨i, ha⟩
          rcases st.own a z with y | y
          · exact notc i hi a ha y
          · rw [hw] at y; cases y
        have mem : ∀ i, some i ∈ ls → ∃ j, ls[j]? = some (some i) := fun i hi => List.mem_iff_getElem?.mp hi
        have cases_ : ∀ a i, a ∈ ownP own ownc' ls i → (∃ j, ls[j]? = some (some i) ∧ a ∈ ownc' j) ∨ (some i ∉ ls ∧ a ∈ own i) := fun a i h => by
          by_cases hi : some i ∈ ls
          · obtain ⟨j, hj⟩ := mem i hi
            rw [ownP_in nd hj] at h
            exact .inl ⟨j, hj, h⟩
          · rw [ownP_out hi] at h
            exact .inr ⟨hi, h⟩
        refine ⟨⟨st.fz, st.sub, fun a u h n => st.fr a u h fun z => n (inn a z), fun a u h => ?_, fun a ⟨i, h⟩ => ?_⟩, ⟨by rw [putB_len]; exact E.len, fun i s h => ?_, fun i h => ?_, fun i k a h1 h2 => ?_, fun i => ?_, fun i a h => ?_, Ea.tab⟩, fun a ⟨i, h⟩ => ?_⟩
        · rcases st.new a u h with z | z | z
          · exact .inl z
          · exact .inr (.inl (inn a z))
          · exact .inr (.inr z)
        · rcases cases_ a i h with ⟨j, _, m⟩ | ⟨_, m⟩
          · rcases st.own a ⟨j, m⟩ with z | z
            · exact .inl (inn a z)
            · exact .inr z
          · exact .inl ⟨i, m⟩
        · by_cases hi : some i ∈ ls
          · obtain ⟨j, hj⟩ := mem i hi
            obtain ⟨h3, h5, h7⟩ := lend j i hj
            rw [ownP_in nd hj]
            have hj' : j < args'.length := by rw [lenA]; exact h7
            have e0 := putB_in (env := e) nd hj (List.getElem?_eq_getElem hj') h5
            rw [e0] at h; cases h
            have R := Ea.rep j _ (List.getElem?_eq_getElem hj')
            rw [List.getElem?_map] at R
            rw [h3]; exact R
          · rw [putB_out hi] at h
            rw [ownP_out hi]
            exact (E.rep i s h).keep st.fz (kept i hi)
        · rw [putB_len] at h
          by_cases hi : some i ∈ ls
          · obtain ⟨j, hj⟩ := mem i hi
            obtain ⟨_, h5, _⟩ := lend j i hj
            exact absurd h5 (Nat.not_lt.mpr h)
          · rw [ownP_out hi]; exact E.out i h
        · rcases cases_ a i h1 with ⟨j1, e1, m1⟩ | ⟨n1, m1⟩
          · rcases cases_ a k h2 with ⟨j2, e2, m2⟩ | ⟨n2, m2⟩
            · have := Ea.sep j1 j2 a m1 m2
              subst this
              rw [e1] at e2; cases e2; rfl
            · exact absurd ⟨j1, m1⟩ (cne k n2 a m2)
          · rcases cases_ a k h2 with ⟨j2, e2, m2⟩ | ⟨n2, m2⟩
            · exact absurd ⟨j2, m2⟩ (cne i n1 a m1)
            · exact E.sep i k a m1 m2
        · by_cases hi : some i ∈ ls
          · obtain ⟨j, hj⟩ := mem i hi
            rw [ownP_in nd hj]; exact Ea.nd j
          · rw [ownP_out hi]; exact E.nd i
        · rcases cases_ a i h with ⟨j, _, m⟩ | ⟨n, m⟩
          · exact Ea.off j a m
          · exact offk i n a m
        · rcases cases_ a i h with ⟨j, _, m⟩ | ⟨n, m⟩
          · exact .inl ⟨j, m⟩
          · exact .inr ⟨⟨i, m⟩, notc i n a m⟩
      have hnp : args.length = np := by
        by_cases h : args.length = np
        · exact h
        · rw [hb args h] at q; exact q.elim
      refine ⟨F, ownC own ls, args, hnp, hs, Ec, ?_⟩
      cases hf : f args with
      | bad => rw [hf] at q; exact q
      | exc c d args' =>
        rw [hf] at q
        intro F' H' ownc' st Ea cls dd xr
        obtain ⟨b1, b2, _⟩ := back args' F' H' ownc' st Ea
        exact ⟨c, d, F', _, _, xr, q F' H' _ b1 b2⟩
      | ok r args' =>
        rw [hf] at q
        intro F' H' ownc' v st Ea rr
        obtain ⟨b1, b2, b3⟩ := back args' F' H' ownc' st Ea
        refine q F' H' _ v b1 b2 ?_
        cases r with
        | val d => exact rr
        | new o =>
          obtain ⟨as, h1, h2, h3⟩ := rr
          refine ⟨as, h1, h2, fun a ha => ⟨(h3 a ha).1, fun z => ?_, ?_⟩⟩
          · rcases b3 a z with y | ⟨y, y2⟩
            · exact (h3 a ha).2.1 y
            · rcases (h3 a ha).2.2 with x | x
              · exact y2 x
              · obtain ⟨w, hw, _⟩ := E.there y
                rw [hw] at x; cases x
          · rcases (h3 a ha).2.2 with x | x
            · exact .inl (inn a x)
            · exact .inr x
    · rw [if_neg nd] at q; exact q.elim
variable {X : Cx} {pos : Pos}
theorem s_call {e : Expr} {f : List Sl → Out EV} {np : Nat} {ms : List Sl → Out (List Ar)} (hb : ∀ args : List Sl, args.length ≠ np → f args = .bad) (h : PE X e (tCall (spF G np f) [] (EW G W) (tAr G W ms))) : PE X e (tM G W (mCall f ms)) :=
  h.weak fun σ H Q ⟨F, own, env, hs, E, q⟩ => ⟨F, own, env, hs, E, q.bind rEV_mono fun xs e1 F1 H1 own1 vs st E1 rx q1 => by
    rw [List.append_nil]
    exact callA_rd hb st.sub E1 rx q1⟩
end

/-! ### a def's body -/
def retA (lk : List Nat) : Nat → List Sl → List Sl → List Sl
  | j, a :: as, s :: env => (if j ∈ lk then s else a) :: retA lk (j + 1) as env
  | _, _, _ => []
def okA (lk : List Nat) : Nat → List Sl → Bool
  | j, a :: as => (!isOwn (some a) || decide (j ∈ lk)) && okA lk (j + 1) as
  | _, [] => true
def runF (n : Nat) (lk : List Nat) (np : Nat) (body : List Sl → Out SF) (args : List Sl) : Out EV :=
  if args.length = np ∧ okA lk 0 args = true then
    match body (args ++ List.replicate (n - np) .un) with
    | .ok .next env => .ok (.val .non) (retA lk 0 args env)
    | .ok (.ret r) env => .ok r (retA lk 0 args env)
    | .exc c d env => .exc c d (retA lk 0 args env)
    | .bad => .bad
  else .bad
theorem runF_bad {n : Nat} {lk : List Nat} {np : Nat} {body : List Sl → Out SF} (args : List Sl) (h : args.length ≠ np) : runF n lk np body args = .bad := by
  unfold runF
  rw [if_neg fun z => h z.1]
theorem retA_len {lk : List Nat} : ∀ {as env : List Sl} {j : Nat}, as.length ≤ env.length → (retA lk j as env).length = as.length
  | [], _, _, _ => by unfold retA; rfl
  | a :: as, [], _, h => by simp at h
  | a :: as, s :: env, j, h => by
    unfold retA
    rw [List.length_cons, retA_len (by simpa using h), List.length_cons]
theorem retA_get {lk : List Nat} : ∀ {as env : List Sl} {j i : Nat} {a s : Sl}, as[i]? = some a → env[i]? = some s → (retA lk j as env)[i]? = some (if j + i ∈ lk then s else a)
  | [], _, _, _, _, _, h, _ => by simp at h
  | _ :: _, [], _, _, _, _, _, h => by simp at h
  | a0 :: as, s0 :: env, j, 0, a, s, h1, h2 => by
    simp at h1 h2; subst h1 h2
    unfold retA; simp
  | a0 :: as, s0 :: env, j, i + 1, a, s, h1, h2 => by
    unfold retA
    have := retA_get (lk := lk) (j := j + 1) (i := i) (a := a) (s := s) (by simpa using h1) (by simpa using h2)
    rw [List.getElem?_cons_succ, this, show j + 1 + i = j + (i + 1) by omega]
theorem okA_get {lk : List Nat} : ∀ {as : List Sl} {j i : Nat} {a : Sl}, okA lk j as = true → as[i]? = some a → j + i ∉ lk → isOwn (some a) = false
  | [], _, _, _, _, h, _ => by simp at h
  | a0 :: as, j, 0, a, h, h1, h2 => by
    simp at h1; subst h1
    unfold okA at h
    simp only [Bool.and_eq_true, Bool.or_eq_true, Bool.not_eq_true', decide_eq_true_eq] at h
    exact h.1.elim id fun z => absurd z (by simpa using h2)
  | a0 :: as, j, i + 1, a, h, h1, h2 => by
    unfold okA at h
    rw [Bool.and_eq_true] at h
    exact okA_get (j := j + 1) (i := i) h.2 (by simpa using h1) (by rw [show j + 1 + i = j + (i + 1) by omega]; exact h2)
section
variable {G : Glo}
theorem start_get {N : List Str} {vs : List V} {i : Nat} (h : i < vs.length) : (L2.start N vs)[i]? = (vs.map some)[i]? := by
  unfold L2.start
  rw [List.getElem?_append_left (by simpa using h)]
theorem ER.enter {F H : Hp} {args : List Sl} {vs : List V} {own : Nat → List Addr} {N : List Str} {np : Nat} (E : ER G F H args (vs.map some) own) (hl : args.length = np) (hN : np ≤ N.length) : ER G F H (args ++ List.replicate (N.length - np) .un) (L2.start N vs) own where
  tab := E.tab
  len := by
    have := E.len
    rw [List.length_map] at this
    unfold L2.start
    simp
    omega
  rep := fun i s h => by
    have lv := E.len
    rw [List.length_map] at lv
    by_cases hi : i < args.length
    · rw [List.getElem?_append_left hi] at h
      rw [start_get (by omega)]
      exact E.rep i s h
    · rw [List.getElem?_append_right (Nat.not_lt.mp hi), List.getElem?_replicate] at h
      split at h
      · cases h; exact E.out i (Nat.not_lt.mp hi)
      · cases h
  out := fun i h => E.out i (by simp at h; omega)
  sep := E.sep
  nd := E.nd
  off := E.off
/-- behind the body: what was lent -/
theorem ER.leave {F H F' H' : Hp} {args env : List Sl} {vs : List V} {own own' : Nat → List Addr} {σ' : L2.St} {N : List Str} {lk : List Nat} (E : ER G F H args (vs.map some) own) (ok : okA lk 0 args = true) (st : Step F H (Inn own) F' H' (Inn own')) (E' : ER G F' H' env σ' own') (kp : Kp lk (L2.start N vs) σ') (hl : args.length ≤ env.length) :
    ER G F' H' (retA lk 0 args env) (vs.map some) (fun j => if j ∈ lk ∧ j < args.length then own' j else []) where
  tab := E'.tab
  len := by rw [retA_len hl]; exact E.len
  rep := fun i s h => by
    have lv := E.len
    rw [List.length_map] at lv
    have hi : i < args.length := by
      have := (List.getElem?_eq_some_iff.mp h).1
      rw [retA_len hl] at this; exact this
    have hi' : i < env.length := Nat.lt_of_lt_of_le hi hl
    rw [retA_get (List.getElem?_eq_getElem hi) (List.getElem?_eq_getElem hi'), Nat.zero_add] at h
    by_cases hk : i ∈ lk
    · rw [if_pos hk] at h; cases h
      rw [if_pos ⟨hk, hi⟩]
      have R := E'.rep i _ (List.getElem?_eq_getElem hi')
      rw [kp.2 i hk, start_get (by omega)] at R
      exact R
    · rw [if_neg hk] at h; cases h
      rw [if_neg fun z => hk z.1]
      have no := okA_get ok (List.getElem?_eq_getElem hi) (by rw [Nat.zero_add]; exact hk)
      have R := E.rep i _ (List.getElem?_eq_getElem hi)
      revert R no
      generalize args[i] = s
      intro no R
      cases s with
      | un => rfl
      | d x => obtain ⟨_, v, h1, h2⟩ := R; exact ⟨rfl, v, h1, Rep.mono st.fz _ _ h2⟩
      | own o => cases no
  out := fun i h => by
    rw [retA_len hl] at h
    exact if_neg fun z => absurd z.2 (Nat.not_lt.mpr h)
  sep := fun i j a h1 h2 => by
    split at h1
    · split at h2
      · exact E'.sep i j a h1 h2
      · simp at h2
    · simp at h1
  nd := fun i => by
    split
    · exact E'.nd i
    · exact List.nodup_nil
  off := fun i a h => by
    split at h
    · exact E'.off i a h
    · simp at h
/-- a def keeps what its body tells -/
theorem f_body {np : Nat} {N : List Str} {lk : List Nat} {m : List Sl → Out SF} (hN : np ≤ N.length) {vs : List V} {H : Hp} {Q : VK} {E : XK} (h : spF G np (runF N.length lk np m) vs H Q E) : tS G (wE G E) lk m { nx := fun _ H' => Q .non H', rt := Q } (L2.start N vs) H := by
  obtain ⟨F, own, args, hl, hs, Ea, q⟩ := h
  unfold runF at q
  by_cases hok : args.length = np ∧ okA lk 0 args = true
  · rw [if_pos hok] at q
    have En := Ea.enter (N := N) hl hN
    refine ⟨F, own, _, hs, En, ?_⟩
    have sub : ∀ own' : Nat → List Addr, ∀ a, Inn (fun j => if j ∈ lk ∧ j < args.length then own' j else []) a → Inn own' a := fun own' a ⟨j, hj⟩ => by
      have hj : a ∈ if j ∈ lk ∧ j < args.length then own' j else [] := hj
      split at hj
      · exact ⟨j, hj⟩
      · simp at hj
    have lv := Ea.len
    rw [List.length_map] at lv
    have lenE : ∀ {F' H' : Hp} {env : List Sl} {σ' : L2.St} {own' : Nat → List Addr}, ER G F' H' env σ' own' → Kp lk (L2.start N vs) σ' → args.length ≤ env.length := fun E' kp => by
      have h1 := E'.len
      have h2 := kp.1
      have h3 := En.len
      simp at h3
      omega
    have out : ∀ {F' H' : Hp} {env : List Sl} {σ' : L2.St} {own' : Nat → List Addr}, Step F H (Inn own) F' H' (Inn own') → ER G F' H' env σ' own' → Kp lk (L2.start N vs) σ' →
        Step F H (Inn own) F' H' (Inn (fun j => if j ∈ lk ∧ j < args.length then own' j else [])) ∧ ER G F' H' (retA lk 0 args env) (vs.map some) (fun j => if j ∈ lk ∧ j < args.length then own' j else []) := fun {F' H' env σ' own'} st E' kp =>
      ⟨st.own' fun a z => .inl (sub own' a z), Ea.leave hok.2 st E' kp (lenE E' kp)⟩
    cases hm : m (args ++ List.replicate (N.length - np) .un) with
    | bad => rw [hm] at q; exact q
    | exc c d env =>
      rw [hm] at q
      intro F' H' own' σ' st E' kp
      obtain ⟨s1, e1⟩ := out st E' kp
      exact q F' H' _ s1 e1
    | ok f env =>
      rw [hm] at q
      cases f with
      | next =>
        intro F' H' own' σ' st E' kp
        obtain ⟨s1, e1⟩ := out st E' kp
        exact q F' H' _ .non s1 e1 rfl
      | ret r =>
        intro F' H' own' σ' v st E' kp rr
        obtain ⟨s1, e1⟩ := out st E' kp
        refine q F' H' _ v s1 e1 ?_
        cases r with
        | val d => exact rr
        | new o =>
          obtain ⟨as, h1, h2, h3⟩ := rr
          exact ⟨as, h1, h2, fun a ha => ⟨(h3 a ha).1, fun z => (h3 a ha).2.1 (sub own' a z), (h3 a ha).2.2⟩⟩
  · rw [if_neg hok] at q; exact q.elim
end
end PyI

set_option Elab.async false
set_option linter.all false
set_option maxRecDepth 100000
/-! PyI: the operations. -/
namespace PyI
open PySem PySem.Spec L2
set_option autoImplicit false

section
variable {G : Glo} {F H : Hp} {v : V} {Q : VK}
theorem view_non (h : View G F H .non v) : v = .non := by unfold View Rep at h; exact h
theorem view_bl {b : Bool} (h : View G F H (.bl b) v) : v = .bl b := by unfold View Rep at h; exact h
theorem view_int {i : Int} (h : View G F H (.int i) v) : v = .int i := by unfold View Rep at h; exact h
theorem view_str {x : Str} (h : View G F H (.str x) v) : v = .str x := by unfold View Rep at h; exact h
theorem view_tup {xs : List D} (h : View G F H (.tup xs) v) : ∃ a vs, v = .ref a ∧ F a = some (.tup vs) ∧ RepL G F xs vs := by unfold View Rep at h; exact h
theorem view_lst {xs : List D} (h : View G F H (.lst xs) v) : ∃ a vs, v = .ref a ∧ H a = some (.lst vs) ∧ RepL G F xs vs := by unfold View at h; exact h
theorem view_scr {ns : List Int} (h : View G F H (.scr ns) v) : ∃ a, v = .ref a ∧ SqL G.K H a (ns.map V.int) := by unfold View at h; exact h
theorem view_dct {t : Nat} {ks xs : List D} (h : View G F H (.dct t ks xs) v) : ∃ a vs, v = .ref a ∧ (DFz H a t ks vs ∨ DOw H a t ks vs) ∧ RepL G F xs vs := by unfold View at h; exact h
theorem rep_int {i : Int} : Rep G F (.int i) (.int i) := by unfold Rep; rfl
theorem rep_bl {b : Bool} : Rep G F (.bl b) (.bl b) := by unfold Rep; rfl
theorem rep_str {x : Str} : Rep G F (.str x) (.str x) := by unfold Rep; rfl
theorem rep_non : Rep G F .non .non := by unfold Rep; rfl
theorem pq_int (hs : Same F H) {i : Int} (q : PQ G F H (.val (.int i)) Q) : Q (.int i) H := q F H _ (Pure.refl hs) (rep_int (G := G) (F := F))
theorem pq_bl (hs : Same F H) {i : Bool} (q : PQ G F H (.val (.bl i)) Q) : Q (.bl i) H := q F H _ (Pure.refl hs) (rep_bl (G := G) (F := F))
theorem pq_str (hs : Same F H) {i : Str} (q : PQ G F H (.val (.str i)) Q) : Q (.str i) H := q F H _ (Pure.refl hs) (rep_str (G := G) (F := F))
theorem pq_non (hs : Same F H) (q : PQ G F H (.val .non) Q) : Q .non H := q F H _ (Pure.refl hs) (rep_non (G := G) (F := F))
theorem pq_rep (hs : Same F H) {d : D} (r : Rep G F d v) (q : PQ G F H (.val d) Q) : Q v H := q F H _ (Pure.refl hs) r
/-- a new tuple -/
theorem pq_tup (hs : Same F H) {ds : List D} {vs : List V} (r : RepL G F ds vs) (q : PQ G F H (.val (.tup ds)) Q) : ∀ p, H p = none → Q (.ref p) (upd H p (.tup vs)) := fun p np =>
  q _ _ _ (Pure.put (o := .tup vs) hs np) (by
    show Rep G _ (.tup ds) (.ref p)
    unfold Rep
    exact ⟨p, vs, rfl, upd_same, RepL.mono (Pure.put (o := .tup vs) hs np).fz _ _ r⟩)
/-- a new list -/
theorem pq_lst (hs : Same F H) {ds : List D} {vs : List V} (r : RepL G F ds vs) (q : PQ G F H (.new (.lst ds)) Q) : ∀ p, H p = none → Q (.ref p) (upd H p (.lst vs)) := fun p np =>
  q _ _ _ (Pure.lay (o := .lst vs) hs np) ⟨[p], ⟨p, vs, rfl, rfl, upd_same, r⟩, by simp, fun a ha => by
    have e : a = p := by simpa using ha
    subst e; exact ⟨hs.free np, fun z => z, np⟩⟩
theorem RepL.take {xs : List D} {vs : List V} : ∀ (n : Nat) {xs : List D} {vs : List V}, RepL G F xs vs → RepL G F (xs.take n) (vs.take n)
  | 0, _, _, _ => .nil
  | n + 1, [], vs, h => by unfold RepL at h; subst h; exact .nil
  | n + 1, x :: xs, vs, h => by
    unfold RepL at h
    obtain ⟨v, r, rfl, h1, h2⟩ := h
    exact .cons h1 (RepL.take (xs := xs) (vs := r) n h2)
theorem RepL.drop {xs : List D} {vs : List V} : ∀ (n : Nat) {xs : List D} {vs : List V}, RepL G F xs vs → RepL G F (xs.drop n) (vs.drop n)
  | 0, _, _, h => h
  | n + 1, [], vs, h => by unfold RepL at h; subst h; exact .nil
  | n + 1, x :: xs, vs, h => by
    unfold RepL at h
    obtain ⟨v, r, rfl, h1, h2⟩ := h
    exact RepL.drop (xs := xs) (vs := r) n h2
theorem RepL.rev : ∀ {xs : List D} {vs : List V}, RepL G F xs vs → RepL G F xs.reverse vs.reverse
  | [], vs, h => by unfold RepL at h; subst h; exact .nil
  | x :: xs, vs, h => by
    unfold RepL at h
    obtain ⟨v, r, rfl, h1, h2⟩ := h
    rw [List.reverse_cons, List.reverse_cons]
    exact RepL.append (RepL.rev h2) (.cons h1 .nil)
theorem RepL.rep : ∀ (n : Nat) {xs : List D} {vs : List V}, RepL G F xs vs → RepL G F (List.replicate n xs).flatten (List.replicate n vs).flatten
  | 0, _, _, _ => .nil
  | n + 1, xs, vs, h => by
    rw [List.replicate_succ, List.replicate_succ, List.flatten_cons, List.flatten_cons]
    exact RepL.append h (RepL.rep n h)
end

/-! ### arithmetic -/
def addD : D → D → Option EV
  | .int i, .int j => some (.val (.int (i + j)))
  | .str a, .str b => if a.length + b.length ≤ 16777216 then some (.val (.str (a ++ b))) else none
  | .tup xs, .tup ys => if xs.length + ys.length ≤ 16777216 then some (.val (.tup (xs ++ ys))) else none
  | .lst xs, .lst ys => if xs.length + ys.length ≤ 16777216 then some (.new (.lst (xs ++ ys))) else none
  | _, _ => none
section
variable {G : Glo} {X : Cx}
theorem op_addD : OpR X (binaryOp .Add) (rP2 G addD) := by
  intro pins s σ H x y v u Q I rx ry ⟨F, d, e, r, hs, vd, ve, hf, q⟩
  cases d with
  | int i =>
    cases e with
    | int j => cases hf; exact op_add pins s σ H x y v u Q I rx ry ⟨i, j, view_int vd, view_int ve, pq_int hs q⟩
    | _ => cases hf
  | str a =>
    cases e with
    | str b =>
      have hf : (if a.length + b.length ≤ 16777216 then some (EV.val (.str (a ++ b))) else none) = some r := hf
      split at hf
      · rename_i hl
        cases hf
        exact op_add_str pins s σ H x y v u Q I rx ry ⟨a, b, view_str vd, view_str ve, by rw [sizeLine_eq]; exact hl, pq_str hs q⟩
      · cases hf
    | _ => cases hf
  | tup xs =>
    cases e with
    | tup ys =>
      have hf : (if xs.length + ys.length ≤ 16777216 then some (EV.val (.tup (xs ++ ys))) else none) = some r := hf
      split at hf
      · rename_i hl
        cases hf
        obtain ⟨a, vs, rfl, h1, h2⟩ := view_tup vd
        obtain ⟨b, ws, rfl, h3, h4⟩ := view_tup ve
        refine op_catA pins s σ H _ _ v u Q I rx ry ⟨a, b, vs, ws, rfl, rfl, SqT.of (hs _ _ h1), SqT.of (hs _ _ h3), by rw [← h2.length, ← h4.length, sizeLine_eq]; exact hl, fun e => ?_, fun _ e => ?_, fun _ _ => pq_tup hs (h2.append h4) q⟩
        · subst e
          have e : xs = [] := List.eq_nil_of_length_eq_zero h2.length
          subst e
          exact pq_rep hs (d := .tup ([] ++ ys)) (by unfold Rep; exact ⟨b, ws, rfl, h3, h4⟩) q
        · subst e
          have e : ys = [] := List.eq_nil_of_length_eq_zero h4.length
          subst e
          rw [List.append_nil] at q
          exact pq_rep hs (d := .tup xs) (by unfold Rep; exact ⟨a, vs, rfl, h1, h2⟩) q
      · cases hf
    | _ => cases hf
  | lst xs =>
    cases e with
    | lst ys =>
      have hf : (if xs.length + ys.length ≤ 16777216 then some (EV.new (.lst (xs ++ ys))) else none) = some r := hf
      split at hf
      · rename_i hl
        cases hf
        obtain ⟨a, vs, rfl, h1, h2⟩ := view_lst vd
        obtain ⟨b, ws, rfl, h3, h4⟩ := view_lst ve
        exact op_cat pins s σ H _ _ v u Q I rx ry ⟨a, b, vs, ws, rfl, rfl, h1, h3, by rw [← h2.length, ← h4.length, sizeLine_eq]; exact hl, pq_lst hs (h2.append h4) q⟩
      · cases hf
    | _ => cases hf
  | _ => cases hf
end
end PyI

set_option Elab.async false
set_option linter.all false
set_option maxRecDepth 100000
/-! PyI: more operations. -/
namespace PyI
open PySem PySem.Spec L2
set_option autoImplicit false

/-! ### data read as the library's data -/
mutual
def D.dep : D → Nat
  | .tup xs => D.deps xs + 1
  | .lst xs => D.deps xs + 1
  | _ => 0
def D.deps : List D → Nat
  | [] => 0
  | x :: xs => max (D.dep x) (D.deps xs)
end
mutual
theorem py_dep : ∀ (d : D) (p : PyData), d.py = some p → p.depth = d.dep
  | .non, _, h => by unfold D.py at h; cases h; rfl
  | .bl b, _, h => by unfold D.py at h; cases h; rfl
  | .int i, _, h => by unfold D.py at h; cases h; rfl
  | .str x, _, h => by unfold D.py at h; cases h; rfl
  | .tup xs, _, h => by
    unfold D.py at h
    cases q : D.pys xs with
    | none => rw [q] at h; cases h
    | some ps => rw [q] at h; cases h; unfold PyData.depth D.dep; rw [pys_dep xs ps q]
  | .lst xs, _, h => by
    unfold D.py at h
    cases q : D.pys xs with
    | none => rw [q] at h; cases h
    | some ps => rw [q] at h; cases h; unfold PyData.depth D.dep; rw [pys_dep xs ps q]
  | .dct _ _ _, _, h => by unfold D.py at h; cases h
  | .ins _ _, _, h => by unfold D.py at h; cases h
  | .exc _ _, _, h => by unfold D.py at h; cases h
  | .clo _ _, _, h => by unfold D.py at h; cases h
  | .scr _, _, h => by unfold D.py at h; cases h
theorem pys_dep : ∀ (xs : List D) (ps : List PyData), D.pys xs = some ps → PyData.depthAll ps = D.deps xs
  | [], _, h => by unfold D.pys at h; cases h; rfl
  | x :: xs, _, h => by
    unfold D.pys at h
    cases q : D.py x with
    | none => rw [q] at h; cases h
    | some p =>
      cases q2 : D.pys xs with
      | none => rw [q, q2] at h; cases h
      | some ps => rw [q, q2] at h; cases h; unfold PyData.depthAll D.deps; rw [py_dep x p q, pys_dep xs ps q2]
end
mutual
theorem py_plain : ∀ (d : D) (p : PyData), d.py = some p → p.plain = true
  | .non, _, h => by unfold D.py at h; cases h; rfl
  | .bl b, _, h => by unfold D.py at h; cases h; rfl
  | .int i, _, h => by unfold D.py at h; cases h; rfl
  | .str x, _, h => by unfold D.py at h; cases h; rfl
  | .tup xs, _, h => by
    unfold D.py at h
    cases q : D.pys xs with
    | none => rw [q] at h; cases h
    | some ps => rw [q] at h; cases h; unfold PyData.plain; exact pys_plain xs ps q
  | .lst xs, _, h => by
    unfold D.py at h
    cases q : D.pys xs with
    | none => rw [q] at h; cases h
    | some ps => rw [q] at h; cases h; unfold PyData.plain; exact pys_plain xs ps q
  | .dct _ _ _, _, h => by unfold D.py at h; cases h
  | .ins _ _, _, h => by unfold D.py at h; cases h
  | .exc _ _, _, h => by unfold D.py at h; cases h
  | .clo _ _, _, h => by unfold D.py at h; cases h
  | .scr _, _, h => by unfold D.py at h; cases h
theorem pys_plain : ∀ (xs : List D) (ps : List PyData), D.pys xs = some ps → PyData.plainAll ps = true
  | [], _, h => by unfold D.pys at h; cases h; rfl
  | x :: xs, _, h => by
    unfold D.pys at h
    cases q : D.py x with
    | none => rw [q] at h; cases h
    | some p =>
      cases q2 : D.pys xs with
      | none => rw [q, q2] at h; cases h
      | some ps => rw [q, q2] at h; cases h; unfold PyData.plainAll; rw [py_plain x p q, pys_plain xs ps q2]; rfl
end
section
variable {G : Glo} {K : PySem.W.Frag} {F H : Hp}
mutual
theorem Rep.dp : ∀ (d : D) (p : PyData) (v : V), Rep G F d v → d.py = some p → Dp K F v p
  | .non, _, _, r, h => by unfold D.py at h; cases h; unfold Rep at r; subst r; exact .non
  | .bl b, _, _, r, h => by unfold D.py at h; cases h; unfold Rep at r; subst r; exact .bl b
  | .int i, _, _, r, h => by unfold D.py at h; cases h; unfold Rep at r; subst r; exact .int i
  | .str x, _, _, r, h => by unfold D.py at h; cases h; unfold Rep at r; subst r; exact .str x
  | .tup xs, _, _, r, h => by
    unfold D.py at h
    unfold Rep at r
    obtain ⟨a, vs, rfl, h1, h2⟩ := r
    cases q : D.pys xs with
    | none => rw [q] at h; cases h
    | some ps => rw [q] at h; cases h; exact .tup (SqT.of h1) (RepL.dp xs ps vs h2 q)
  | .lst xs, _, _, r, h => by
    unfold D.py at h
    unfold Rep at r
    obtain ⟨a, vs, rfl, h1, h2⟩ := r
    cases q : D.pys xs with
    | none => rw [q] at h; cases h
    | some ps => rw [q] at h; cases h; exact .lst (SqL.of h1) (RepL.dp xs ps vs h2 q)
  | .dct _ _ _, _, _, _, h => by unfold D.py at h; cases h
  | .ins _ _, _, _, _, h => by unfold D.py at h; cases h
  | .exc _ _, _, _, _, h => by unfold D.py at h; cases h
  | .clo _ _, _, _, _, h => by unfold D.py at h; cases h
  | .scr _, _, _, _, h => by unfold D.py at h; cases h
theorem RepL.dp : ∀ (xs : List D) (ps : List PyData) (vs : List V), RepL G F xs vs → D.pys xs = some ps → DpAll K F vs ps
  | [], _, _, r, h => by unfold D.pys at h; cases h; unfold RepL at r; subst r; exact .nil
  | x :: xs, _, _, r, h => by
    unfold D.pys at h
    unfold RepL at r
    obtain ⟨v, t, rfl, h1, h2⟩ := r
    cases q : D.py x with
    | none => rw [q] at h; cases h
    | some p =>
      cases q2 : D.pys xs with
      | none => rw [q, q2] at h; cases h
      | some ps => rw [q, q2] at h; cases h; exact .cons (Rep.dp x p v h1 q) (RepL.dp xs ps t h2 q2)
end
theorem View.dp (hs : Same F H) {d : D} {p : PyData} {v : V} (r : View G F H d v) (h : d.py = some p) : Dp K H v p := by
  have key : Rep G H d v := by
    cases d with
    | lst xs => obtain ⟨a, vs, rfl, h1, h2⟩ := view_lst r; unfold Rep; exact ⟨a, vs, rfl, h1, RepL.mono hs _ _ h2⟩
    | dct t ks xs => unfold D.py at h; cases h
    | scr ns => unfold D.py at h; cases h
    | _ => exact Rep.mono hs _ _ r
  exact Rep.dp d p v key h
end

/-! ### equality, membership -/
def eqDB (d e : D) : Option Bool :=
  if min d.dep e.dep ≤ 100 then d.py.bind fun p => e.py.bind fun q => some (PyData.eqv p q) else none
def eqD (d e : D) : Option EV := (eqDB d e).map fun b => .val (.bl b)
def neD (d e : D) : Option EV := (eqDB d e).map fun b => .val (.bl (!b))
def itemsD : D → Option (List D)
  | .lst xs => some xs
  | .tup xs => some xs
  | _ => none
def inSeq (x : D) (xs : List D) : Option Bool :=
  if min x.dep (D.deps xs) ≤ 100 then x.py.bind fun p => (D.pys xs).bind fun ps => some (ps.any fun y => PyData.eqv y p) else none
section
variable {G : Glo} {X : Cx}
theorem eqDB_some {d e : D} {b : Bool} (h : eqDB d e = some b) : ∃ p q, d.py = some p ∧ e.py = some q ∧ b = PyData.eqv p q ∧ min p.depth q.depth ≤ 100 := by
  unfold eqDB at h
  split at h
  · rename_i hm
    cases q1 : d.py with
    | none => rw [q1] at h; cases h
    | some p =>
      cases q2 : e.py with
      | none => rw [q1, q2] at h; cases h
      | some q => rw [q1, q2] at h; cases h; exact ⟨p, q, rfl, rfl, rfl, by rw [py_dep d p q1, py_dep e q q2]; exact hm⟩
  · cases h
theorem op_eqDD (hu : X.A.units + 200 < cLine) : OpR X (compareOp .Eq) (rP2 G eqD) := by
  intro pins s σ H x y v u Q I rx ry ⟨F, d, e, r, hs, vd, ve, hf, q⟩
  unfold eqD at hf
  cases hb : eqDB d e with
  | none => rw [hb] at hf; cases hf
  | some b =>
    rw [hb] at hf; cases hf
    obtain ⟨p, q', h1, h2, rfl, h4⟩ := eqDB_some hb
    obtain ⟨as, r1⟩ := Dp.reads I p x v (View.dp hs vd h1) rx
    obtain ⟨bs, r2⟩ := Dp.reads I q' y u (View.dp hs ve h2) ry
    exact SeqAt.eq_plain r1 r2 (py_plain _ _ h1) (py_plain _ _ h2) (by omega) ⟨.bl _, H, I, rfl, pq_bl hs q⟩
theorem op_neDD (hu : X.A.units + 200 < cLine) : OpR X (compareOp .NotEq) (rP2 G neD) := by
  intro pins s σ H x y v u Q I rx ry ⟨F, d, e, r, hs, vd, ve, hf, q⟩
  unfold neD at hf
  cases hb : eqDB d e with
  | none => rw [hb] at hf; cases hf
  | some b =>
    rw [hb] at hf; cases hf
    obtain ⟨p, q', h1, h2, rfl, h4⟩ := eqDB_some hb
    obtain ⟨as, r1⟩ := Dp.reads I p x v (View.dp hs vd h1) rx
    obtain ⟨bs, r2⟩ := Dp.reads I q' y u (View.dp hs ve h2) ry
    exact SeqAt.ne_plain r1 r2 (py_plain _ _ h1) (py_plain _ _ h2) (by omega) ⟨.bl _, H, I, rfl, pq_bl hs q⟩
theorem inSeq_some {x : D} {xs : List D} {b : Bool} (h : inSeq x xs = some b) : ∃ p ps, x.py = some p ∧ D.pys xs = some ps ∧ b = (ps.any fun y => PyData.eqv y p) ∧ min (PyData.depthAll ps) p.depth ≤ 100 := by
  unfold inSeq at h
  split at h
  · rename_i hm
    cases q1 : x.py with
    | none => rw [q1] at h; cases h
    | some p =>
      cases q2 : D.pys xs with
      | none => rw [q1, q2] at h; cases h
      | some q => rw [q1, q2] at h; cases h; exact ⟨p, q, rfl, rfl, rfl, by rw [py_dep x p q1, pys_dep xs q q2, Nat.min_comm]; exact hm⟩
  · cases h
/-- what a key is, where a dict is asked -/
def keyOf : D → Option Key
  | .int i => some (.inl i)
  | .str x => some (.inr x)
  | _ => none
def keysOf : List D → Option (List Key)
  | [] => some []
  | x :: xs => (keyOf x).bind fun k => (keysOf xs).bind fun r => some (k :: r)
end
end PyI

set_option Elab.async false
set_option linter.all false
set_option maxRecDepth 100000
/-! PyI: arithmetic, comparisons, subscripts, slices. -/
namespace PyI
open PySem PySem.Spec L2
set_option autoImplicit false

section
variable {G : Glo} {X : Cx}
/-- two ints -/
def iiD (f : Int → Int → Option D) : D → D → Option EV
  | .int i, .int j => (f i j).map .val
  | _, _ => none
theorem op_ii {op : Value → Value → Sem Value} {C : Int → Int → Prop} {g : Int → Int → V} {f : Int → Int → Option D} (h : OpR X op (L2.rI C g)) (k : ∀ i j d, f i j = some d → C i j ∧ ∀ F, Rep G F d (g i j)) : OpR X op (rP2 G (iiD f)) := by
  intro pins s σ H x y v u Q I rx ry ⟨F, d, e, r, hs, vd, ve, hf, q⟩
  cases d with
  | int i =>
    cases e with
    | int j =>
      have hf : (f i j).map EV.val = some r := hf
      cases hg : f i j with
      | none => rw [hg] at hf; cases hf
      | some w =>
        rw [hg] at hf; cases hf
        obtain ⟨c, rp⟩ := k i j w hg
        exact h pins s σ H x y v u Q I rx ry ⟨i, j, view_int vd, view_int ve, c, pq_rep hs (rp F) q⟩
    | _ => cases hf
  | _ => cases hf
theorem op_ii0 {op : Value → Value → Sem Value} {g : Int → Int → V} {f : Int → Int → D} (h : OpR X op (rI0 g)) (k : ∀ i j F, Rep G F (f i j) (g i j)) : OpR X op (rP2 G (iiD fun i j => some (f i j))) :=
  op_ii (C := fun _ _ => True) (fun pins s σ H x y v u Q I rx ry ⟨i, j, e1, e2, _, q⟩ => h pins s σ H x y v u Q I rx ry ⟨i, j, e1, e2, q⟩) fun i j d hd => by cases hd; exact ⟨trivial, k i j⟩
abbrev subD := iiD fun i j => some (.int (i - j))
abbrev modD := iiD fun i j => if 0 < j then some (.int (i % j)) else none
abbrev fdivD := iiD fun i j => if 0 < j ∧ j.natAbs.log2 < 9000 then some (.int (i / j)) else none
abbrev CPW (i j : Int) : Prop := 0 ≤ j ∧ (i.natAbs.log2 + 1) * j.toNat ≤ 134217728
def powD : D → D → Option EV := iiD fun i j => if CPW i j then some (.int (i ^ j.toNat)) else none
abbrev shlD := iiD fun i j => if 0 ≤ j ∧ j ≤ 1000000 ∧ i.natAbs < 2 ^ 64 then some (.int (i * 2 ^ j.toNat)) else none
abbrev shrD := iiD fun i j => if 0 ≤ j then some (.int (i / 2 ^ j.toNat)) else none
abbrev andD := iiD fun i j => some (.int (Builtin.bitAnd i j))
abbrev orD := iiD fun i j => some (.int (Builtin.bitOr i j))
theorem op_subD : OpR X (binaryOp .Sub) (rP2 G subD) := op_ii0 op_sub fun _ _ _ => rep_int
theorem op_andD : OpR X (binaryOp .BitAnd) (rP2 G andD) := op_ii0 op_and fun _ _ _ => rep_int
theorem op_orD : OpR X (binaryOp .BitOr) (rP2 G orD) := op_ii0 op_or fun _ _ _ => rep_int
theorem op_modD : OpR X (binaryOp .Mod) (rP2 G modD) := op_ii op_mod fun i j d h => by split at h <;> cases h; exact ⟨by assumption, fun _ => rep_int⟩
theorem op_fdivD : OpR X (binaryOp .FloorDiv) (rP2 G fdivD) := op_ii op_fdivW fun i j d h => by split at h <;> cases h; exact ⟨by assumption, fun _ => rep_int⟩
theorem op_powW : OpR X (binaryOp .Pow) (L2.rI CPW fun i j => .int (i ^ j.toNat)) := opI fun i j _ _ _ _ _ hc q => by
  refine PyProof.Rows.pow_int hc.1 ?_ q
  have b : Builtin.Int.intBits i ≤ i.natAbs.log2 + 1 := by
    unfold Builtin.Int.intBits
    split <;> omega
  have h2 : (Builtin.Int.intBits i : Int) ≤ ((i.natAbs.log2 + 1 : Nat) : Int) := by omega
  have h3 := Int.mul_le_mul_of_nonneg_right h2 hc.1
  have h4 : (((i.natAbs.log2 + 1) * j.toNat : Nat) : Int) ≤ 134217728 := Int.ofNat_le.mpr hc.2
  have h5 : ((j.toNat : Nat) : Int) = j := Int.toNat_of_nonneg hc.1
  rw [Int.natCast_mul, h5] at h4
  exact Int.le_trans h3 (Int.le_trans h4 (by decide))
theorem op_powD : OpR X (binaryOp .Pow) (rP2 G powD) := op_ii op_powW fun i j d h => by split at h <;> cases h; exact ⟨by assumption, fun _ => rep_int⟩
theorem op_shlD : OpR X (binaryOp .LShift) (rP2 G shlD) := op_ii op_shl fun i j d h => by split at h <;> cases h; exact ⟨by assumption, fun _ => rep_int⟩
theorem op_shrD : OpR X (binaryOp .RShift) (rP2 G shrD) := op_ii op_shr fun i j d h => by split at h <;> cases h; exact ⟨by assumption, fun _ => rep_int⟩
/-- a product; a list so often -/
def mulD : D → D → Option EV
  | .int i, .int j => if i.natAbs.log2 + j.natAbs.log2 < 1000000 then some (.val (.int (i * j))) else none
  | .lst xs, .int k => if (-9223372036854775808 ≤ k ∧ k < 9223372036854775808) ∧ xs.length * k.toNat ≤ 16777216 then some (.new (.lst (List.replicate k.toNat xs).flatten)) else none
  | .tup xs, .int k => if xs ≠ [] ∧ 2 ≤ k ∧ k ≤ 1000 ∧ xs.length ≤ 1000 then some (.val (.tup (List.replicate k.toNat xs).flatten)) else none
  | _, _ => none
theorem op_mulD : OpR X (binaryOp .Mult) (rP2 G mulD) := by
  intro pins s σ H x y v u Q I rx ry ⟨F, d, e, r, hs, vd, ve, hf, q⟩
  cases d with
  | int i =>
    cases e with
    | int j =>
      have hf : (if i.natAbs.log2 + j.natAbs.log2 < 1000000 then some (EV.val (.int (i * j))) else none) = some r := hf
      split at hf <;> cases hf
      exact op_mulW pins s σ H x y v u Q I rx ry ⟨i, j, view_int vd, view_int ve, by assumption, pq_int hs q⟩
    | _ => cases hf
  | lst xs =>
    cases e with
    | int k =>
      have hf : (if (-9223372036854775808 ≤ k ∧ k < 9223372036854775808) ∧ xs.length * k.toNat ≤ 16777216 then some (EV.new (.lst (List.replicate k.toNat xs).flatten)) else none) = some r := hf
      split at hf <;> cases hf
      rename_i hc
      obtain ⟨a, vs, rfl, h1, h2⟩ := view_lst vd
      exact op_rep pins s σ H _ _ v u Q I rx ry ⟨a, k, vs, rfl, view_int ve, h1, by omega, by omega, by rw [← h2.length, sizeLine_eq]; exact hc.2, pq_lst hs (RepL.rep _ h2) q⟩
    | _ => cases hf
  | tup xs =>
    cases e with
    | int k =>
      have hf : (if xs ≠ [] ∧ 2 ≤ k ∧ k ≤ 1000 ∧ xs.length ≤ 1000 then some (EV.val (.tup (List.replicate k.toNat xs).flatten)) else none) = some r := hf
      split at hf <;> cases hf
      rename_i hc
      obtain ⟨a, vs, rfl, h1, h2⟩ := view_tup vd
      refine op_repT pins s σ H _ _ v u Q I rx ry ⟨a, k, vs, rfl, view_int ve, SqT.of (hs _ _ h1), fun e => ?_, hc.2.1, hc.2.2.1, by rw [← h2.length]; exact hc.2.2.2, pq_tup hs (RepL.rep _ h2) q⟩
      subst e
      exact hc.1 (List.eq_nil_of_length_eq_zero h2.length)
    | _ => cases hf
  | _ => cases hf
def negD : D → Option EV
  | .int i => some (.val (.int (-i)))
  | _ => none
def invD : D → Option EV
  | .int i => some (.val (.int (Builtin.bitNot i)))
  | _ => none
theorem un_negD : UnR X (unaryOp .USub) (rP1 G negD) := by
  intro pins s σ H x v Q I rx ⟨F, d, r, hs, vd, hf, q⟩
  cases d with
  | int i => cases hf; exact un_neg pins s σ H x v Q I rx ⟨i, view_int vd, pq_int hs q⟩
  | _ => cases hf
theorem un_invD : UnR X (unaryOp .Invert) (rP1 G invD) := by
  intro pins s σ H x v Q I rx ⟨F, d, r, hs, vd, hf, q⟩
  cases d with
  | int i => cases hf; exact un_inv pins s σ H x v Q I rx ⟨i, view_int vd, pq_int hs q⟩
  | _ => cases hf

/-! ### order, is -/
abbrev ltD := iiD fun i j => some (.bl (decide (i < j)))
abbrev leD := iiD fun i j => some (.bl (decide (i ≤ j)))
abbrev gtD := iiD fun i j => some (.bl (decide (j < i)))
abbrev geD := iiD fun i j => some (.bl (decide (j ≤ i)))
theorem op_ltD : OpR X (compareOp .Lt) (rP2 G ltD) := op_ii0 op_lt fun _ _ _ => rep_bl
theorem op_leD : OpR X (compareOp .LtE) (rP2 G leD) := op_ii0 op_le fun _ _ _ => rep_bl
theorem op_gtD : OpR X (compareOp .Gt) (rP2 G gtD) := op_ii0 op_gt fun _ _ _ => rep_bl
theorem op_geD : OpR X (compareOp .GtE) (rP2 G geD) := op_ii0 op_ge fun _ _ _ => rep_bl
def isNon : D → Bool
  | .non => true
  | _ => false
def isDB : D → D → Option Bool
  | d, .non => some (isNon d)
  | .bl a, .bl b => some (decide (a = b))
  | _, _ => none
def isD (d e : D) : Option EV := (isDB d e).map fun b => .val (.bl b)
def isnotD (d e : D) : Option EV := (isDB d e).map fun b => .val (.bl (!b))
theorem view_isNon {F H : Hp} {d : D} {v : V} (h : View G F H d v) : decide (v = .non) = isNon d := by
  cases d with
  | non => rw [view_non h]; rfl
  | bl b => rw [view_bl h]; rfl
  | int i => rw [view_int h]; rfl
  | str x => rw [view_str h]; rfl
  | tup xs => obtain ⟨a, vs, rfl, _⟩ := view_tup h; rfl
  | lst xs => obtain ⟨a, vs, rfl, _⟩ := view_lst h; rfl
  | dct t ks xs => obtain ⟨a, vs, rfl, _⟩ := view_dct h; rfl
  | ins c fs => unfold View Rep at h; obtain ⟨b, C, dx, vs, rfl, _⟩ := h; rfl
  | exc c w => unfold View Rep at h; obtain ⟨b, C, dx, vs, rfl, _⟩ := h; rfl
  | clo n cap => unfold View Rep at h; obtain ⟨_, b, C, dx, rfl, _⟩ := h; rfl
  | scr ns => obtain ⟨a, rfl, _⟩ := view_scr h; rfl
theorem op_isDD : OpR X (compareOp .Is) (rP2 G isD) := by
  intro pins s σ H x y v u Q I rx ry ⟨F, d, e, r, hs, vd, ve, hf, q⟩
  unfold isD at hf
  cases e with
  | non =>
    have hb : isDB d .non = some (isNon d) := by cases d <;> rfl
    rw [hb] at hf; cases hf
    exact op_isN pins s σ H x y v u Q I rx ry ⟨view_non ve, by rw [view_isNon vd]; exact pq_bl hs q⟩
  | bl b =>
    cases d with
    | bl a => cases hf; exact op_is_bl pins s σ H x y v u Q I rx ry ⟨a, b, view_bl vd, view_bl ve, pq_bl hs q⟩
    | _ => cases hf
  | _ => cases d <;> cases hf
theorem op_isnotDD : OpR X (compareOp .IsNot) (rP2 G isnotD) := by
  intro pins s σ H x y v u Q I rx ry ⟨F, d, e, r, hs, vd, ve, hf, q⟩
  unfold isnotD at hf
  cases e with
  | non =>
    have hb : isDB d .non = some (isNon d) := by cases d <;> rfl
    rw [hb] at hf; cases hf
    exact op_notN pins s σ H x y v u Q I rx ry ⟨view_non ve, by rw [view_isNon vd]; exact pq_bl hs q⟩
  | bl b =>
    cases d with
    | bl a => cases hf; exact op_isnot_bl pins s σ H x y v u Q I rx ry ⟨a, b, view_bl vd, view_bl ve, pq_bl hs q⟩
    | _ => cases hf
  | _ => cases d <;> cases hf

/-! ### dicts: what a key is -/
def tkeyOf : D → Option (List Key)
  | .tup xs => keysOf xs
  | _ => none
theorem keyOf_D : ∀ k : Key, keyOf (keyD k) = some k
  | .inl _ => rfl
  | .inr _ => rfl
theorem keyOf_some {d : D} {k : Key} (h : keyOf d = some k) : d = keyD k := by
  cases d <;> cases h <;> rfl
theorem keysOf_D : ∀ ks : List Key, keysOf (ks.map keyD) = some ks
  | [] => rfl
  | k :: ks => by
    rw [List.map_cons]; unfold keysOf
    rw [keyOf_D, keysOf_D ks]; rfl
theorem keysOf_some : ∀ {ds : List D} {ks : List Key}, keysOf ds = some ks → ds = ks.map keyD
  | [], _, h => by unfold keysOf at h; cases h; rfl
  | d :: ds, _, h => by
    unfold keysOf at h
    cases h1 : keyOf d with
    | none => rw [h1] at h; cases h
    | some k =>
      cases h2 : keysOf ds with
      | none => rw [h1, h2] at h; cases h
      | some r => rw [h1, h2] at h; cases h; rw [List.map_cons, keyOf_some h1, keysOf_some h2]
theorem tkeyOf_some {d : D} {ks : List Key} (h : tkeyOf d = some ks) : d = tkeyD ks := by
  cases d with
  | tup xs => unfold tkeyD; rw [keysOf_some (show keysOf xs = some ks from h)]
  | _ => cases h
/-- the same key, where both may be keys of the dict's kind -/
def keq (t : Nat) (d e : D) : Bool :=
  if t = 0 then (match keyOf d, keyOf e with | some a, some b => decide (a = b) | _, _ => false)
  else (match tkeyOf d, tkeyOf e with | some a, some b => decide (a = b) | _, _ => false)
/-- what may be a key of such a dict -/
def isKey (t : Nat) (d : D) : Bool := if t = 0 then (keyOf d).isSome else (tkeyOf d).isSome
def lookKV (t : Nat) : List D → List D → D → Option D
  | k :: ks, v :: vs, d => if keq t k d then some v else lookKV t ks vs d
  | _, _, _ => none
theorem rep_key {F : Hp} {k : Key} {v : V} (h : Rep G F (keyD k) v) : v = kV k := by
  cases k with
  | inl i => unfold keyD Rep at h; exact h
  | inr x => unfold keyD Rep at h; exact h
theorem repL_keys {F : Hp} : ∀ {ks : List Key} {vs : List V}, RepL G F (ks.map keyD) vs → vs = ks.map kV
  | [], vs, h => by unfold RepL at h; exact h
  | k :: ks, vs, h => by
    rw [List.map_cons] at h
    unfold RepL at h
    obtain ⟨v, r, rfl, h1, h2⟩ := h
    rw [List.map_cons, rep_key h1, repL_keys h2]
theorem look_K {F : Hp} {k : Key} : ∀ {l : List (Key × V)} {xs : List D}, RepL G F xs (l.map (·.2)) → 
    (lookKV 0 (l.map fun p => keyD p.1) xs (keyD k) = none ∧ valV l k = none) ∨ ∃ d v, lookKV 0 (l.map fun p => keyD p.1) xs (keyD k) = some d ∧ valV l k = some v ∧ Rep G F d v
  | [], xs, h => by
    left
    exact ⟨by cases xs <;> rfl, rfl⟩
  | (k0, v0) :: l, xs, h => by
    cases xs with
    | nil => unfold RepL at h; cases h
    | cons x xs =>
      unfold RepL at h
      obtain ⟨v, r, e, h1, h2⟩ := h
      have e1 : v0 = v := by simpa using congrArg List.head? e
      have e2 : l.map (·.2) = r := by simpa using congrArg List.tail e
      subst e1 e2
      have hk : keq 0 (keyD k0) (keyD k) = decide (k0 = k) := by unfold keq; rw [if_pos rfl, keyOf_D, keyOf_D]
      rw [List.map_cons]
      unfold lookKV valV
      rw [hk, List.find?_cons]
      by_cases e : k0 = k
      · right
        rw [decide_eq_true e, if_pos rfl]
        exact ⟨x, v0, rfl, rfl, h1⟩
      · rw [decide_eq_false e, if_neg Bool.false_ne_true]
        exact look_K (l := l) h2
end
end PyI

set_option Elab.async false
set_option linter.all false
set_option maxRecDepth 100000
/-! PyI: subscripts, membership, slices. -/
namespace PyI
open PySem PySem.Spec L2
set_option autoImplicit false
section
variable {G : Glo} {X : Cx}
/-- what a dict tells of a key -/
theorem dget_of {F H : Hp} {t : Nat} {ks xs : List D} {d : D} {x y : V} (hs : Same F H) (vd : View G F H (.dct t ks xs) x) (vk : View G F H d y) (hk : isKey t d = true) :
    ∃ a, x = .ref a ∧ ((lookKV t ks xs d = none ∧ DGet H a y none) ∨ ∃ e v, lookKV t ks xs d = some e ∧ DGet H a y (some v) ∧ Rep G F e v) := by
  obtain ⟨a, vs, rfl, h1, h2⟩ := view_dct vd
  refine ⟨a, rfl, ?_⟩
  have rdk : ∀ l : List (Key × V), (∃ od, H a = some (.frz od (.dK l))) ∨ H a = some (.dK l) → Rd H a (.dK l) := fun l h => h.elim (fun ⟨od, e⟩ => .inr ⟨od, e⟩) .inl
  have rdt : ∀ l : List (List Key × V), (∃ od, H a = some (.frz od (.dT l))) ∨ H a = some (.dT l) → Rd H a (.dT l) := fun l h => h.elim (fun ⟨od, e⟩ => .inr ⟨od, e⟩) .inl
  have kcase : ∀ l : List (Key × V), t = 0 → Rd H a (.dK l) → ks = l.map (fun p => keyD p.1) → vs = l.map (·.2) → (lookKV t ks xs d = none ∧ DGet H a y none) ∨ ∃ e v, lookKV t ks xs d = some e ∧ DGet H a y (some v) ∧ Rep G F e v := fun l ht hr hks hvs => by
    subst ht hks hvs
    unfold isKey at hk
    rw [if_pos rfl] at hk
    obtain ⟨k, hk⟩ := Option.isSome_iff_exists.mp hk
    have e := keyOf_some hk
    subst e
    have ey : y = kV k := by
      cases k with
      | inl i => exact view_int vk
      | inr z => exact view_str vk
    rcases look_K (k := k) h2 with ⟨l1, l2⟩ | ⟨e, v, l1, l2, r⟩
    · exact .inl ⟨l1, .inl ⟨l, k, hr, ey, l2.symm⟩⟩
    · exact .inr ⟨e, v, l1, .inl ⟨l, k, hr, ey, l2.symm⟩, r⟩
  have tcase : ∀ l : List (List Key × V), t = 1 → Rd H a (.dT l) → ks = l.map (fun p => tkeyD p.1) → vs = l.map (·.2) → (lookKV t ks xs d = none ∧ DGet H a y none) ∨ ∃ e v, lookKV t ks xs d = some e ∧ DGet H a y (some v) ∧ Rep G F e v := fun l ht hr hks hvs => by
    subst ht hks hvs
    unfold isKey at hk
    rw [if_neg (by decide)] at hk
    obtain ⟨k, hk⟩ := Option.isSome_iff_exists.mp hk
    have e := tkeyOf_some hk
    subst e
    obtain ⟨b, ws, rfl, hb, rb⟩ := view_tup vk
    have ew := repL_keys rb
    subst ew
    have look_T : ∀ {l : List (List Key × V)} {xs : List D}, RepL G F xs (l.map (·.2)) →
        (lookKV 1 (l.map fun p => tkeyD p.1) xs (tkeyD k) = none ∧ valV l k = none) ∨ ∃ d v, lookKV 1 (l.map fun p => tkeyD p.1) xs (tkeyD k) = some d ∧ valV l k = some v ∧ Rep G F d v := fun {l} => by
      induction l with
      | nil => intro xs h; left; exact ⟨by cases xs <;> rfl, rfl⟩
      | cons p l ih =>
        obtain ⟨k0, v0⟩ := p
        intro xs h
        cases xs with
        | nil => unfold RepL at h; cases h
        | cons x xs =>
          unfold RepL at h
          obtain ⟨v, r, e, h1, h2⟩ := h
          have e1 : v0 = v := by simpa using congrArg List.head? e
          have e2 : l.map (·.2) = r := by simpa using congrArg List.tail e
          subst e1 e2
          have hq : keq 1 (tkeyD k0) (tkeyD k) = decide (k0 = k) := by
            unfold keq
            rw [if_neg (by decide), show tkeyOf (tkeyD k0) = some k0 from keysOf_D k0, show tkeyOf (tkeyD k) = some k from keysOf_D k]
          rw [List.map_cons]
          unfold lookKV valV
          rw [hq, List.find?_cons]
          by_cases e : k0 = k
          · right
            rw [decide_eq_true e, if_pos rfl]
            exact ⟨x, v0, rfl, rfl, h1⟩
          · rw [decide_eq_false e, if_neg Bool.false_ne_true]
            exact ih h2
    rcases look_T h2 with ⟨l1, l2⟩ | ⟨e, v, l1, l2, r⟩
    · exact .inl ⟨l1, .inr ⟨l, k, b, hr, rfl, hs _ _ hb, l2.symm⟩⟩
    · exact .inr ⟨e, v, l1, .inr ⟨l, k, b, hr, rfl, hs _ _ hb, l2.symm⟩, r⟩
  rcases h1 with (⟨ht, od, l, e1, e2, e3⟩ | ⟨ht, od, l, e1, e2, e3⟩) | (⟨ht, l, e1, e2, e3⟩ | ⟨ht, l, e1, e2, e3⟩)
  · exact kcase l ht (.inr ⟨od, e1⟩) e2 e3
  · exact tcase l ht (.inr ⟨od, e1⟩) e2 e3
  · exact kcase l ht (.inl e1) e2 e3
  · exact tcase l ht (.inl e1) e2 e3

/-! ### x[i] -/
def idxD : D → D → Option EV
  | .lst xs, .int i => (atI xs i).map .val
  | .tup xs, .int i => (atI xs i).map .val
  | .str z, .int i => if z.length ≤ 16777216 then (atI z.cps.toList i).map fun c => .val (.str ⟨#[c]⟩) else none
  | .scr ns, .int i => (atI ns i).map fun n => .val (.int n)
  | .dct t ks vs, k => if isKey t k then (lookKV t ks vs k).map .val else none
  | _, _ => none
theorem atI_some {α : Type} {xs : List α} {i : Int} {x : α} (h : atI xs i = some x) : ∃ j, ixN xs.length i = some j ∧ xs[j]? = some x := by
  unfold atI at h
  cases q : ixN xs.length i with
  | none => rw [q] at h; cases h
  | some j => rw [q] at h; exact ⟨j, rfl, h⟩
theorem atI_rep {F : Hp} {xs : List D} {vs : List V} {i : Int} {x : D} (r : RepL G F xs vs) (h : atI xs i = some x) : ∃ v, atI vs i = some v ∧ Rep G F x v := by
  obtain ⟨j, h1, h2⟩ := atI_some h
  obtain ⟨v, h3, h4⟩ := r.get h2
  exact ⟨v, by unfold atI; rw [← r.length, h1]; exact h3, h4⟩
theorem atI_map {α β : Type} (f : α → β) (xs : List α) (i : Int) : atI (xs.map f) i = (atI xs i).map f := by
  unfold atI
  rw [List.length_map]
  cases ixN xs.length i with
  | none => rfl
  | some j => show (xs.map f)[j]? = (xs[j]?).map f; rw [List.getElem?_map]
theorem ix_dict (hu : X.A.units + 1 < cLine) : IxR X (fun x y H Q => ∃ a v, x = .ref a ∧ DGet H a y (some v) ∧ Q v H) := by
  intro value slice pins s σ H x y v u Q I rx ry ⟨a, w, ex, g, q⟩ hsl
  subst ex
  obtain rfl : v = Value.ref a := rx
  refine PyProof.Rows.tail_any (ops := [.ref a, u]) (dict_typeIs I g) PySem.F.slot_dict_getitem.lookup (d_getItem hu I g ry fun w' s3 I3 rw' => ⟨w, H, I3, rw', q⟩) hsl
theorem ix_D (hK : G.K = X.K) (hu : X.A.units + 1 < cLine) : IxR X (rP2 G idxD) := by
  intro value slice pins s σ H x y v u Q I rx ry ⟨F, d, e, r, hs, vd, ve, hf, q⟩ hsl
  cases d with
  | lst xs =>
    cases e with
    | int i =>
      have hf : (atI xs i).map EV.val = some r := hf
      cases h : atI xs i with
      | none => rw [h] at hf; cases hf
      | some z =>
        rw [h] at hf; cases hf
        obtain ⟨a, vs, rfl, h1, h2⟩ := view_lst vd
        obtain ⟨w, h3, h4⟩ := atI_rep h2 h
        exact ix_list value slice pins s σ H _ y v u Q I rx ry ⟨a, vs, i, w, rfl, view_int ve, SqL.of h1, h3, pq_rep hs h4 q⟩ hsl
    | _ => cases hf
  | tup xs =>
    cases e with
    | int i =>
      have hf : (atI xs i).map EV.val = some r := hf
      cases h : atI xs i with
      | none => rw [h] at hf; cases hf
      | some z =>
        rw [h] at hf; cases hf
        obtain ⟨a, vs, rfl, h1, h2⟩ := view_tup vd
        obtain ⟨w, h3, h4⟩ := atI_rep h2 h
        exact ix_tup value slice pins s σ H _ y v u Q I rx ry ⟨a, vs, i, w, rfl, view_int ve, SqT.of (hs _ _ h1), h3, pq_rep hs h4 q⟩ hsl
    | _ => cases hf
  | scr ns =>
    cases e with
    | int i =>
      have hf : (atI ns i).map (fun n => EV.val (.int n)) = some r := hf
      cases h : atI ns i with
      | none => rw [h] at hf; cases hf
      | some z =>
        rw [h] at hf; cases hf
        obtain ⟨a, rfl, h1⟩ := view_scr vd
        exact ix_list value slice pins s σ H _ y v u Q I rx ry ⟨a, ns.map V.int, i, .int z, rfl, view_int ve, by rw [← hK]; exact h1, by rw [atI_map, h]; rfl, pq_int hs q⟩ hsl
    | _ => cases hf
  | str z =>
    cases e with
    | int i =>
      have hf : (if z.length ≤ 16777216 then (atI z.cps.toList i).map fun c => EV.val (.str ⟨#[c]⟩) else none) = some r := hf
      split at hf
      · rename_i hl
        cases h : atI z.cps.toList i with
        | none => rw [h] at hf; cases hf
        | some c =>
          rw [h] at hf; cases hf
          exact ix_str value slice pins s σ H _ y v u Q I rx ry ⟨z, i, c, view_str vd, view_int ve, by rw [sizeLine_eq]; exact hl, h, pq_str hs q⟩ hsl
      · cases hf
    | _ => cases hf
  | dct t ks xs =>
    have hf : (if isKey t e = true then (lookKV t ks xs e).map EV.val else none) = some r := by cases e <;> exact hf
    split at hf
    · rename_i hk
      obtain ⟨a, rfl, h⟩ := dget_of hs vd ve hk
      rcases h with ⟨l, _⟩ | ⟨z, w, l, g, rp⟩
      · rw [l] at hf; cases hf
      · rw [l] at hf; cases hf
        exact ix_dict hu value slice pins s σ H _ y v u Q I rx ry ⟨a, w, rfl, g, pq_rep hs rp q⟩ hsl
    · cases hf
  | _ => cases e <;> cases hf
theorem s_ix {a b : Expr} {pos : Pos} {W : WE} {ma mb : List Sl → Out Ar} (hK : G.K = X.K) (hu : X.A.units + 1 < cLine) (ha : PE X a (tO G W ma)) (hb : PE X b (tO G W mb)) (hp : PlainIx b) : PE X (.Subscript a b pos) (tM G W (m2 idxD ma mb)) :=
  (pe_ix (ix_D hK hu) ha hb hp).weak fun σ H Q h => t2_of h

/-! ### x in y -/
def inDB (x : D) : D → Option Bool
  | .lst xs => inSeq x xs
  | .tup xs => inSeq x xs
  | .dct t ks vs => if isKey t x then some (lookKV t ks vs x).isSome else none
  | .str z => match x with
    | .str w => match w.cps.toList with
      | [c] => some (decide (c ∈ z.cps.toList))
      | _ => none
    | _ => none
  | _ => none
def inD (x y : D) : Option EV := (inDB x y).map fun b => .val (.bl b)
def ninD (x y : D) : Option EV := (inDB x y).map fun b => .val (.bl (!b))
theorem one_cp {w : Str} {c : Nat} (h : w.cps.toList = [c]) : w = ⟨#[c]⟩ := by
  cases w with
  | mk a => cases a with
    | mk l => simp at h; subst h; rfl
theorem in_core (neg : Bool) (hu : X.A.units + 200 < cLine) {pins : List (Addr × Obj)} {s : Shared} {σ : L2.St} {H F : Hp} {x y : V} {v u : Value} {Q : VK} {d e : D} {b : Bool} (I : Inv X pins σ H s) (rx : RelV x v) (ry : RelV y u) (hs : Same F H) (vd : View G F H d x) (ve : View G F H e y)
    (hb : inDB d e = some b) (q : ∀ s', Inv X pins σ H s' → EP X pins σ Q (.bool (if neg then !b else b)) s') : wpAny (model X.prog X.w) X.A (compareOp (if neg then .NotIn else .In) v u) (EP X pins σ Q) X.xe s := by
  have seq : ∀ xs, (e = .lst xs ∨ e = .tup xs) → inSeq d xs = some b → wpAny (model X.prog X.w) X.A (compareOp (if neg then .NotIn else .In) v u) (EP X pins σ Q) X.xe s := fun xs he hi => by
    obtain ⟨p, ps, h1, h2, rfl, h4⟩ := inSeq_some hi
    obtain ⟨as, r1⟩ := Dp.reads I p x v (View.dp hs vd h1) rx
    rcases he with rfl | rfl
    · have h5 : D.py (.lst xs) = some (.list ps) := by unfold D.py; rw [h2]; rfl
      obtain ⟨bs, r2⟩ := Dp.reads I _ y u (View.dp hs ve h5) ry
      cases neg with
      | false => exact SeqAt.in_list_data r2 r1 (pys_plain _ _ h2) (py_plain _ _ h1) (by omega) (q s I)
      | true => exact SeqAt.notIn_list_data r2 r1 (pys_plain _ _ h2) (py_plain _ _ h1) (by omega) (q s I)
    · have h5 : D.py (.tup xs) = some (.tuple ps) := by unfold D.py; rw [h2]; rfl
      obtain ⟨bs, r2⟩ := Dp.reads I _ y u (View.dp hs ve h5) ry
      cases neg with
      | false => exact SeqAt.in_tuple_data r2 r1 (pys_plain _ _ h2) (py_plain _ _ h1) (by omega) (q s I)
      | true => exact SeqAt.notIn_tuple_data r2 r1 (pys_plain _ _ h2) (py_plain _ _ h1) (by omega) (q s I)
  cases e with
  | lst xs => exact seq xs (.inl rfl) hb
  | tup xs => exact seq xs (.inr rfl) hb
  | dct t ks xs =>
    have hb : (if isKey t d = true then some (lookKV t ks xs d).isSome else none) = some b := hb
    split at hb
    · rename_i hk
      cases hb
      obtain ⟨a, rfl, h⟩ := dget_of hs ve vd hk
      obtain rfl : u = Value.ref a := ry
      rcases h with ⟨l, g⟩ | ⟨z, w, l, g, rp⟩
      · rw [l] at q
        cases neg with
        | false => exact d_in (by omega) I g rx fun s' I' => q s' I'
        | true => exact d_notIn (by omega) I g rx fun s' I' => q s' I'
      · rw [l] at q
        cases neg with
        | false => exact d_in (by omega) I g rx fun s' I' => q s' I'
        | true => exact d_notIn (by omega) I g rx fun s' I' => q s' I'
    · cases hb
  | str z =>
    cases d with
    | str w =>
      have hb : (match w.cps.toList with
        | [c] => some (decide (c ∈ z.cps.toList))
        | _ => none) = some b := hb
      split at hb
      · rename_i c hc
        cases hb
        have e := one_cp hc
        subst e
        have hx := view_str vd
        have hy := view_str ve
        subst hx hy
        have fin : ∀ k, (if neg = true then !decide (c ∈ z.cps.toList) else decide (c ∈ z.cps.toList)) = k → ∃ Q', Q' (.bl k) H ∧ ∀ u s', EP X pins σ Q' u s' → EP X pins σ Q u s' := fun k hk => by
          refine ⟨fun w H' => w = .bl k ∧ H' = H, ⟨rfl, rfl⟩, fun u s' ⟨w, H', I', rw', e1, e2⟩ => ?_⟩
          subst e1 e2
          cases rw'
          have := q s' I'
          rw [hk] at this
          exact this
        cases neg with
        | false =>
          obtain ⟨Q', q1, q2⟩ := fin _ rfl
          exact thn (op_in_sign pins s σ H _ _ v u Q' I rx ry ⟨c, z, rfl, rfl, q1⟩) fun u s' h => q2 u s' h
        | true =>
          obtain ⟨Q', q1, q2⟩ := fin _ rfl
          exact thn (op_notIn_sign pins s σ H _ _ v u Q' I rx ry ⟨c, z, rfl, rfl, q1⟩) fun u s' h => q2 u s' h
      · cases hb
    | _ => cases hb
  | _ => cases hb
theorem op_inDD (hu : X.A.units + 200 < cLine) : OpR X (compareOp .In) (rP2 G inD) := by
  intro pins s σ H x y v u Q I rx ry ⟨F, d, e, r, hs, vd, ve, hf, q⟩
  unfold inD at hf
  cases hb : inDB d e with
  | none => rw [hb] at hf; cases hf
  | some b => rw [hb] at hf; cases hf; exact in_core false hu I rx ry hs vd ve hb fun s' I' => ⟨.bl b, H, I', rfl, pq_bl hs q⟩
theorem op_ninDD (hu : X.A.units + 200 < cLine) : OpR X (compareOp .NotIn) (rP2 G ninD) := by
  intro pins s σ H x y v u Q I rx ry ⟨F, d, e, r, hs, vd, ve, hf, q⟩
  unfold ninD at hf
  cases hb : inDB d e with
  | none => rw [hb] at hf; cases hf
  | some b => rw [hb] at hf; cases hf; exact in_core true hu I rx ry hs vd ve hb fun s' I' => ⟨.bl (!b), H, I', rfl, pq_bl hs q⟩
end
end PyI

set_option Elab.async false
set_option linter.all false
set_option maxRecDepth 100000
/-! PyI: slices. -/
namespace PyI
open PySem PySem.Spec L2
open PyProof.Rows hiding St
set_option autoImplicit false
section
variable {prog : Program} {w : World} {A : Around} {E : Value → Shared → Prop} {s : Shared}
theorem sliceApplied_rev {sl : Addr} {vl vu vs : Value} {n : Nat} {Q : Int × Int × Nat → Shared → Prop} (hs : s.heap.IsSliceOf sl vl vu vs) (pl : IsPart vl none) (pu : IsPart vu none) (ps : IsPart vs (some (-1)))
    (h : Q ((n : Int) - 1, -1, n) s) : wpAny (model prog w) A (Builtin.Slice.sliceApplied (.ref sl) (pure (n : Int))) Q E s := by
  obtain ⟨os, hos, hcs, hds⟩ := id hs
  unfold Builtin.Slice.sliceApplied Builtin.Slice.sliceFields
  refine wpAny_bind (wpAny_bind (wpAny_field hos hds (x := vl) rfl (wpAny_bind (wpAny_field hos hds (x := vu) rfl (wpAny_bind (wpAny_field hos hds (x := vs) rfl (wpAny_pure ?_)))))))
  refine wpAny_bind (HT.slicePart_ ps ?_)
  show wpAny _ _ (if ((-1 : Int) == 0) = true then _ else _) _ _ s
  rw [if_neg (by decide)]
  refine wpAny_bind (HT.slicePart_ pl (wpAny_bind (HT.slicePart_ pu (wpAny_bind (wpAny_pure ?_)))))
  show wpAny _ _ (match Builtin.Slice.sliceAdjust none none (-1) (n : Int) with | (lo, hi) => pure (lo, (-1 : Int), Builtin.Slice.slicePlaces lo hi (-1))) _ _ s
  have e1 : Builtin.Slice.sliceAdjust none none (-1) (n : Int) = ((n : Int) - 1, -1) := by
    simp [Builtin.Slice.sliceAdjust]
  rw [e1]
  show wpAny _ _ (pure ((n : Int) - 1, (-1 : Int), Builtin.Slice.slicePlaces ((n : Int) - 1) (-1) (-1))) _ _ s
  have e2 : Builtin.Slice.slicePlaces ((n : Int) - 1) (-1) (-1) = n := by
    simp [Builtin.Slice.slicePlaces]
    omega
  rw [e2]
  exact wpAny_pure h
theorem pick_rev (xs : Array Value) : ((List.range xs.size).filterMap fun (m : Nat) => xs[((xs.size : Int) - 1 + (m : Int) * (-1)).toNat]?).toArray = xs.toList.reverse.toArray := by
  congr 1
  have e : ∀ m ∈ List.range xs.size, xs[((xs.size : Int) - 1 + (m : Int) * (-1)).toNat]? = xs.toList.reverse[m]? := fun m hm => by
    have hm : m < xs.size := List.mem_range.mp hm
    have : ((xs.size : Int) - 1 + (m : Int) * (-1)).toNat = xs.size - 1 - m := by omega
    rw [this, List.getElem?_reverse (by simpa using hm)]
    simp
  have cg : ∀ (l : List Nat) (f g : Nat → Option Value), (∀ m ∈ l, f m = g m) → l.filterMap f = l.filterMap g := fun l f g => by
    induction l with
    | nil => intro _; rfl
    | cons a l ih =>
      intro h
      rw [List.filterMap_cons, List.filterMap_cons, h a (by simp), ih fun m hm => h m (by simp [hm])]
  rw [cg _ _ _ e]
  have : ∀ l : List Value, (List.range l.length).filterMap (fun m => l[m]?) = l := fun l => by
    induction l with
    | nil => rfl
    | cons a l ih =>
      rw [List.length_cons, List.range_succ_eq_map, List.filterMap_cons, List.filterMap_map]
      simp only [List.getElem?_cons_zero]
      congr 1
  have z := this xs.toList.reverse
  rw [List.length_reverse, Array.length_toList] at z
  exact z
theorem getItem_tuple_rev {t sl : Addr} {items : Array Value} {vl vu vs : Value} {Q : Value → Shared → Prop} (ht : IsTup s.heap t items) (hs : s.heap.IsSliceOf sl vl vu vs) (pl : IsPart vl none) (pu : IsPart vu none) (ps : IsPart vs (some (-1)))
    (h : Q (.ref s.heap.objs.size) { s with heap := s.heap.push { cls := .type "tuple", data := .seq items.toList.reverse.toArray } }) (hsz : items.size ≤ sizeLine) : wpAny (model prog w) A (getItem (.ref t) (.ref sl)) Q E s := by
  have htake : sizeOk (.seq items.toList.reverse.toArray) := by
    show items.toList.reverse.toArray.size ≤ sizeLine
    rw [List.size_toArray, List.length_reverse, Array.length_toList]
    exact hsz
  obtain ⟨os, hos, hcs, hds⟩ := id hs
  have hTs : s.TypeIs (.ref sl) "slice" := ⟨os, hos, hcs⟩
  unfold getItem
  try with_reducible refine wpAny_holding ?_
  first | refine wpAny_bind (wpAny_pure ?_) | skip
  refine wpAny_bind (wpAny_sequenceKey ht.typeIs (by decide) ?_)
  refine wpAny_bind (wpAny_callSpecial?_slot (name := Str.ofString "__getitem__") ht.typeIs PyProof.Rows.slot_tuple_getitem
    (wpAny_call_entry PyProof.Rows.slot_tuple_getitem ht.typeIs entry_tuple_getitem ?_ (args_tuple_getitem _ _)))
  show wpAny _ _ (Builtin.Tuple.tupleItemsOf (.ref t) >>= _) _ _ s
  refine wpAny_bind (tupleItemsOf_ ht ?_)
  refine wpAny_bind (wpAny_typeOf hTs ?_)
  rw [if_pos (by decide)]
  refine wpAny_bind (sliceApplied_rev hs pl pu ps ?_)
  show wpAny _ _ (if ((items.size : Int) - 1 == 0 && (-1 : Int) == 1 && items.size == items.size) = true then _ else _) _ _ s
  rw [if_neg (by simp), pick_rev]
  first
    | exact wpAny_bind (m := Builtin.Tuple.tupleExact _) (wpAny_newObj_type (wpAny_pure ⟨_, rfl, wpAny_pure h⟩) htake)
    | exact wpAny_bind (m := Builtin.Tuple.tupleExact _) (wpAny_newObj_type (wpAny_bind (wpAny_pure (wpAny_pure ⟨_, rfl, wpAny_pure h⟩))) htake)
end
section
variable {G : Glo} {W : WE} {X : Cx}
def revD : D → Option EV
  | .lst xs => some (.new (.lst xs.reverse))
  | .tup xs => some (.val (.tup xs.reverse))
  | _ => none
theorem s_rev {e : Expr} {k : Nat} {p1 p2 p3 pos : Pos} {m : List Sl → Out Ar} (he : PE X e (tO G W m)) : PE X (.Subscript e (.Slice none none (some (.UnaryOp .USub (.Constant (.int 1) k p1) p2)) p3) pos) (tM G W (m1 revD m)) := by
  refine ⟨fun pins s σ H Q I ⟨F, own, env, hs0, E, q⟩ => ?_⟩
  refine PyProof.Rows.Subscript_ (thn (he.run pins s σ H (fun x H1 => rP1 G revD x H1 Q) I ⟨F, own, env, hs0, E, q.bind rEV_mono fun x e1 F1 H1 own1 vx st1 E1 rx q1 => fin1_res st1.sub E1 rx q1⟩) fun v s1 ⟨x, H1, I1, r1, q1⟩ => ?_)
  obtain ⟨F1, d, r, hs1, vd, hf, pq⟩ := q1
  have hst : PO X (some (.UnaryOp .USub (.Constant (.int 1) k p1) p2)) (tPart (tUn (rU fun i => .int (-i)) (tC (.int 1)))) := po_some (pe_un un_neg pe_int)
  refine wpAny_Slice (thn (po_none.run pins s1 σ H1 (fun o H2 => o = none ∧ H2 = H1) I1 ⟨rfl, rfl⟩) fun vl s2 ⟨l, H2, I2, pl, el, e2⟩ => ?_)
  subst el e2
  refine thn (po_none.run pins s2 σ H2 (fun o H3 => o = none ∧ H3 = H2) I2 ⟨rfl, rfl⟩) fun vu s3 ⟨u, H3, I3, pu, eu, e3⟩ => ?_
  subst eu e3
  refine thn (hst.run pins s3 σ H3 (fun o H4 => o = some (-1) ∧ H4 = H3) I3 ⟨1, rfl, -1, rfl, rfl, rfl⟩) fun vs s4 ⟨o, H4, I4, ps, eo, e4⟩ => ?_
  subst eo e4
  have I5 : Inv X pins σ H4 { s4 with heap := s4.heap.push { cls := .type "slice", data := .fields #[vl, vu, vs] } } := I4.kept (t' := s4.toks) fun b ob q => Heap.get?_push_of_some _ q
  cases d with
  | lst xs =>
    cases hf
    obtain ⟨a, ws, rfl, h1, h2⟩ := view_lst vd
    obtain rfl : v = Value.ref a := r1
    obtain ⟨its, r, ht, hz⟩ := I5.list (SqL.of h1)
    have hlen := r.length
    show wpAny (model X.prog X.w) X.A (subscriptTail e (.Slice none none (some (.UnaryOp .USub (.Constant (.int 1) k p1) p2)) p3) (.ref a) (.ref s4.heap.objs.size)) (EP X pins σ Q) X.xe { s4 with heap := s4.heap.push { cls := .type "slice", data := .fields #[vl, vu, vs] } }
    refine PyProof.Rows.tail_any (ops := [.ref a, .ref s4.heap.objs.size]) ht.isList.typeIs (PySem.slot_list_getitem.lookup) ?_ (by with_unfolding_all rfl)
    refine wpAny_getItem_list_slice ht.isList (Heap.IsSliceOf.new _ vl vu vs) pl pu ps (by decide) ?_ (by rw [List.size_toArray]; omega)
    rw [PySem.W.krv_pick]
    refine ⟨.ref _, _, I5.laid (t' := s4.toks) (o := .lst ws.reverse) (fun b ob q => Heap.get?_push_of_some _ q) (Nat.le_refl _) ?_, rfl, pq_lst hs1 (RepL.rev h2) pq _ (I5.hok.fresh (Nat.le_refl _))⟩
    exact ⟨by rw [List.length_reverse]; exact hz, _, 0, r.reverse, Heap.get?_push_size _ rfl⟩
  | tup xs =>
    cases hf
    obtain ⟨a, ws, rfl, h1, h2⟩ := view_tup vd
    obtain rfl : v = Value.ref a := r1
    obtain ⟨its, r, ht, hz⟩ := I5.tuple (SqT.of (hs1 _ _ h1))
    have hlen := r.length
    show wpAny (model X.prog X.w) X.A (subscriptTail e (.Slice none none (some (.UnaryOp .USub (.Constant (.int 1) k p1) p2)) p3) (.ref a) (.ref s4.heap.objs.size)) (EP X pins σ Q) X.xe { s4 with heap := s4.heap.push { cls := .type "slice", data := .fields #[vl, vu, vs] } }
    refine PyProof.Rows.tail_any (ops := [.ref a, .ref s4.heap.objs.size]) ht.typeIs (PyProof.Rows.slot_tuple_getitem.lookup) ?_ (by with_unfolding_all rfl)
    refine getItem_tuple_rev ht (Heap.IsSliceOf.new _ vl vu vs) pl pu ps ?_ (by rw [List.size_toArray]; omega)
    refine ⟨.ref _, _, I5.laid (t' := s4.toks) (o := .tup ws.reverse) (fun b ob q => Heap.get?_push_of_some _ q) (Nat.le_refl _) ?_, rfl, pq_tup hs1 (RepL.rev h2) pq _ (I5.hok.fresh (Nat.le_refl _))⟩
    exact ⟨by rw [List.length_reverse]; exact hz, _, r.reverse, IsTup.new _ _⟩
  | _ => cases hf

/-! ### x[lo:hi] -/
def cutG {α : Type} (xs : List α) (lo hi : Option Int) : List α := (xs.drop (HT.sIx xs.length 0 lo)).take (HT.sIx xs.length xs.length hi - HT.sIx xs.length 0 lo)
theorem cutG_rep {F : Hp} {xs : List D} {vs : List V} {lo hi : Option Int} (h : RepL G F xs vs) : RepL G F (cutG xs lo hi) (cutV vs lo hi) := by
  unfold cutG cutV
  rw [h.length]
  exact RepL.take (xs := []) (vs := []) _ (RepL.drop (xs := []) (vs := []) _ h)
def sliceD (lo hi : Option Int) : D → Option EV
  | .lst xs => some (.new (.lst (cutG xs lo hi)))
  | .tup xs => some (.val (.tup (cutG xs lo hi)))
  | .str z => if z.length ≤ 16777216 then some (.val (.str (cutS z lo hi))) else none
  | .scr ns => some (.new (.lst ((cutG ns lo hi).map .int)))
  | _ => none
/-- a slice's part -/
def mPart (m : Option (List Sl → Out Ar)) (env : List Sl) : Out (Option Int) :=
  match m with
  | none => .ok none env
  | some f => (f env).bind fun x e => match x with
    | .dat (.int i) => .ok (some i) e
    | _ => .bad
def mSlice (ma : List Sl → Out Ar) (ml mh : Option (List Sl → Out Ar)) (env : List Sl) : Out EV :=
  (ma env).bind fun x e1 => (mPart ml e1).bind fun lo e2 => (mPart mh e2).bind fun hi e3 => fin1 (sliceD lo hi) x e3
def rPt : L2.St → RG (Option Int) (Option Int) := fun _ _ _ _ _ a b => a = b
abbrev tPt (G : Glo) (W : WE) (m : List Sl → Out (Option Int)) : TO := rd G W rPt m
theorem _root_.L2.PO.weak {e : Option Expr} {t t' : TO} (h : PO X e t) (k : ∀ σ H Q, t' σ H Q → t σ H Q) : PO X e t' := ⟨fun pins s σ H Q I q => h.run pins s σ H Q I (k σ H Q q)⟩
theorem p_none : PO X none (tPt G W (mPart none)) := po_none.weak fun σ H Q ⟨F, own, env, hs, E, q⟩ => rd_ok hs E q rfl
theorem p_some {e : Expr} {m : List Sl → Out Ar} (h : PE X e (tO G W m)) : PO X (some e) (tPt G W (mPart (some m))) := (po_some h).weak fun σ H Q ⟨F, own, env, hs, E, q⟩ =>
  ⟨F, own, env, hs, E, q.bind (R := rPt σ) (fun _ _ _ _ _ _ _ _ h => h) fun x e1 F1 H1 own1 v st1 E1 rx q1 => by
    cases x with
    | slot i => exact q1.elim
    | dat d =>
      cases d with
      | int i =>
        have rx : Rep G F1 (.int i) v := rx
        unfold Rep at rx
        exact ⟨i, rx, rd_ok st1.sub E1 q1 rfl⟩
      | _ => exact q1.elim⟩
def rSD (G : Glo) : V → Option Int → Option Int → Hp → VK → Prop := fun x lo hi H Q => rP1 G (sliceD lo hi) x H Q
theorem sl_D (hK : G.K = X.K) : SlR X (rSD G) := by
  intro pins s σ H x v vl vu lo hi sl Q I rx hsl pl pu ⟨F, d, r, hs, vd, hf, pq⟩
  cases d with
  | lst xs =>
    cases hf
    obtain ⟨a, ws, rfl, h1, h2⟩ := view_lst vd
    exact sl_list pins s σ H _ v vl vu lo hi sl Q I rx hsl pl pu ⟨a, ws, rfl, SqL.of h1, pq_lst hs (cutG_rep h2) pq⟩
  | tup xs =>
    cases hf
    obtain ⟨a, ws, rfl, h1, h2⟩ := view_tup vd
    refine sl_tupA pins s σ H _ v vl vu lo hi sl Q I rx hsl pl pu ⟨a, ws, rfl, SqT.of (hs _ _ h1), fun hw => ?_, fun _ => pq_tup hs (cutG_rep h2) pq⟩
    have e : cutG xs lo hi = xs := by
      unfold cutG
      rw [h2.length, hw.1, hw.2, List.drop_zero, Nat.sub_zero, List.take_of_length_le (by rw [h2.length]; exact Nat.le_refl _)]
    rw [e] at pq
    exact pq_rep hs (by unfold Rep; exact ⟨a, ws, rfl, h1, h2⟩) pq
  | str z =>
    have hf : (if z.length ≤ 16777216 then some (EV.val (.str (cutS z lo hi))) else none) = some r := hf
    split at hf <;> cases hf
    rename_i hl
    exact sl_str pins s σ H _ v vl vu lo hi sl Q I rx hsl pl pu ⟨z, view_str vd, by rw [sizeLine_eq]; exact hl, pq_str hs pq⟩
  | scr ns =>
    cases hf
    obtain ⟨a, rfl, h1⟩ := view_scr vd
    refine sl_list pins s σ H _ v vl vu lo hi sl Q I rx hsl pl pu ⟨a, ns.map V.int, rfl, by rw [← hK]; exact h1, pq_lst hs ?_ pq⟩
    have e : cutV (ns.map V.int) lo hi = (cutG ns lo hi).map V.int := by
      unfold cutG cutV
      rw [List.length_map, List.map_take, List.map_drop]
    rw [e]
    have gen : ∀ l : List Int, RepL G F (l.map .int) (l.map V.int) := fun l => by
      induction l with
      | nil => exact .nil
      | cons a l ih => exact .cons rep_int ih
    exact gen _
  | _ => cases hf
theorem s_slice {e : Expr} {lo hi : Option Expr} {p2 pos : Pos} {ma : List Sl → Out Ar} {ml mh : Option (List Sl → Out Ar)} (hK : G.K = X.K) (he : PE X e (tO G W ma)) (hl : PO X lo (tPt G W (mPart ml))) (hh : PO X hi (tPt G W (mPart mh))) : PE X (.Subscript e (.Slice lo hi none p2) pos) (tM G W (mSlice ma ml mh)) :=
  (pe_slice (sl_D hK) he hl hh).weak fun σ H Q ⟨F, own, env, hs, E, q⟩ => ⟨F, own, env, hs, E, q.bind rEV_mono fun x e1 F1 H1 own1 vx st1 E1 rx q1 => ⟨F1, own1, e1, st1.sub, E1, q1.bind rEV_mono fun l e2 F2 H2 own2 v2 st2 E2 r2 q2 => ⟨F2, own2, e2, st2.sub, E2, q2.bind rEV_mono fun u e3 F3 H3 own3 v3 st3 E3 r3 q3 => by
    have r2 : l = v2 := r2
    have r3 : u = v3 := r3
    subst r2 r3
    exact fin1_res st3.sub E3 (ArRep.mono (st2.fz.trans st3.fz) rx) q3⟩⟩⟩
end
end PyI

set_option Elab.async false
set_option linter.all false
set_option maxRecDepth 100000
/-! PyI: isinstance, attributes of errors and of instances. -/
namespace PyI
open PySem PySem.Spec L2
set_option autoImplicit false

/-- a class as it is asked for -/
inductive CRf where
  | ty (n : String) | own (c : Nat)
  deriving DecidableEq
def CRf.v (G : Glo) : CRf → Option V
  | .ty n => some (.ty n)
  | .own c => (G.cls c).map .ref
def CRf.u (G : Glo) : CRf → Option Value
  | .ty n => some (.type n)
  | .own c => (G.cls c).map .ref
/-- a value's class -/
inductive TC where
  | ty (n : String) | ins (c : Nat) | exc (c : Nat)
  deriving DecidableEq
def D.tc : D → Option TC
  | .non => some (.ty "NoneType")
  | .bl _ => some (.ty "bool")
  | .int _ => some (.ty "int")
  | .str _ => some (.ty "str")
  | .tup _ => some (.ty "tuple")
  | .lst _ => some (.ty "list")
  | .dct _ _ _ => some (.ty "dict")
  | .ins c _ => some (.ins c)
  | .exc c _ => some (.exc c)
  | .clo _ _ => none
  | .scr _ => some (.ty "list")
structure InsK (K : PySem.W.Frag) (C : Addr) : Prop where
  cl : Cls K C
  ha : PySem.W.findIn K (.ref C) "__class__" = some (some (.builtin "object.__class__"))
  hn : PySem.W.specialIn K (.builtin "object.__class__") "__get__" = some (some (.builtin "getset_descriptor.__get__"))
  ht : PySem.W.takesIn K (.builtin "object.__class__") = some true
  hm : PySem.W.mroIn K C (.type "object") = some true
/-- a table of isinstance's answers -/
def IsaOk (K : PySem.W.Frag) (G : Glo) (isa : TC → CRf → Option Bool) : Prop := ∀ t u b, isa t u = some b → ∃ uv, u.u G = some uv ∧ match t with
  | .ty n => PySem.W.kitOne K (.type n) uv = some b
  | .ins c => ∃ C, G.cls c = some C ∧ InsK K C ∧ PySem.W.kitOne K (.ref C) uv = some b
  | .exc c => ∃ C, G.cls c = some C ∧ ExcC K C ∧ PySem.W.kitOne K (.ref C) uv = some b
def isaB (isa : TC → CRf → Option Bool) (u : CRf) (d : D) : Option Bool := d.tc.bind fun t => isa t u
def isaD (isa : TC → CRf → Option Bool) (u : CRf) (d : D) : Option EV := (isaB isa u d).map fun b => .val (.bl b)
section
variable {G : Glo} {X : Cx} {W : WE} {F H : Hp}
theorem isa_call {isa : TC → CRf → Option Bool} {cr : CRf} {d : D} {b : Bool} {x c : V} {u uc : Value} {pins : List (Addr × Obj)} {σ : St} {s : Shared} {Q : VK} (ok : IsaOk X.K G isa) (hK : G.K = X.K) (I : Inv X pins σ H s) (hs : Same F H) (vd : View G F H d x) (hb : isaB isa cr d = some b) (hc : cr.v G = some c) (rx : RelV x u) (rc : RelV c uc) (q : Q (.bl b) H) :
    wpAny (model X.prog X.w) X.A (call (.builtin "isinstance") [u, uc]) (EP X pins σ Q) X.xe s := by
  unfold isaB at hb
  cases ht : d.tc with
  | none => rw [ht] at hb; cases hb
  | some t =>
    rw [ht] at hb
    obtain ⟨uv, hu, hk⟩ := ok t cr b hb
    have ec : uc = uv := by
      cases cr with
      | ty n => cases hc; cases hu; exact rc
      | own k =>
        have hc : (G.cls k).map V.ref = some c := hc
        have hu : (G.cls k).map Value.ref = some uv := hu
        cases hG : G.cls k with
        | none => rw [hG] at hc; cases hc
        | some C => rw [hG] at hc hu; cases hc; cases hu; exact rc
    subst ec
    have fin : ∀ {t : Value} {P : Heap → Prop}, PySem.W.KitX X.K u t P → P s.heap → u ≠ .builtin "__main__.__loader__#opaque" → PySem.W.kitOne X.K t uc = some b → wpAny (model X.prog X.w) X.A (call (.builtin "isinstance") [u, uc]) (EP X pins σ Q) X.xe s :=
      fun Z p hx e => PySem.W.kia_one Z I.kIn p e hx fun tk => ⟨.bl b, H, I.tok tk, rfl, q⟩
    have fin2 : ∀ {t : Value}, TyX X.K H x t → PySem.W.kitOne X.K t uc = some b → wpAny (model X.prog X.w) X.A (call (.builtin "isinstance") [u, uc]) (EP X pins σ Q) X.xe s := fun ty e => by
      obtain ⟨P, Z, p, hx⟩ := kit_of I rx ty
      exact fin Z p hx e
    cases d with
    | non => cases ht; have e := view_non vd; subst e; exact fin2 (.base .non) hk
    | bl y => cases ht; have e := view_bl vd; subst e; exact fin2 (.base (.bl _)) hk
    | int y => cases ht; have e := view_int vd; subst e; exact fin2 (.base (.int _)) hk
    | str y => cases ht; have e := view_str vd; subst e; exact fin2 (.base (.str _)) hk
    | tup xs => cases ht; obtain ⟨a, vs, rfl, h1, _⟩ := view_tup vd; exact fin2 (.base (.tup (hs _ _ h1))) hk
    | lst xs => cases ht; obtain ⟨a, vs, rfl, h1, _⟩ := view_lst vd; exact fin2 (.base (.lst h1)) hk
    | scr ns =>
      cases ht
      obtain ⟨a, rfl, h1⟩ := view_scr vd
      rw [hK] at h1
      cases (show u = Value.ref a from rx)
      obtain ⟨its, _, pl, _⟩ := I.list h1
      obtain ⟨o, _, h2, h3, _⟩ := pl
      exact fin PySem.W.kitx_list ⟨o, h2, h3⟩ (fun z => nomatch z) hk
    | dct t ks xs =>
      cases ht
      obtain ⟨a, vs, rfl, h1, _⟩ := view_dct vd
      cases (show u = Value.ref a from rx)
      rcases h1 with (⟨_, od, l, h1, _⟩ | ⟨_, od, l, h1, _⟩) | (⟨_, l, h1, _⟩ | ⟨_, l, h1, _⟩)
      · exact fin2 (.fDict h1) hk
      · obtain ⟨_, _, _, xs, _, o, es, ep, h2, h3, _⟩ := (show ObjOk X.prog X.w H s.heap a (.frz od (.dT l)) from I.hok a _ h1)
        exact fin PySem.W.kitx_dict ⟨o, h2, h3.1⟩ (fun z => nomatch z) hk
      · exact fin2 (.base (.dK h1)) hk
      · exact fin2 (.base (.dT h1)) hk
    | ins k fs =>
      cases ht
      obtain ⟨C, hC, ik, e⟩ := hk
      unfold View Rep at vd
      obtain ⟨a, C', dx, vs, rfl, h1, h2, _⟩ := vd
      rw [hC] at h1; cases h1
      exact fin2 (.base (.ins (hs _ _ h2) ik.cl ik.ha ik.hn ik.ht ik.hm)) e
    | exc k w =>
      cases ht
      obtain ⟨C, hC, ik, e⟩ := hk
      unfold View Rep at vd
      obtain ⟨a, dd, C', w', rfl, h1, h2, h3, _⟩ := vd
      rw [hC] at h1; cases h1
      cases (show u = Value.ref a from rx)
      obtain ⟨t1, ho⟩ := exo_at I.hok (hs _ _ h2)
      obtain ⟨mA, hn, _⟩ := exd_at I.hok (hs _ _ h3)
      obtain ⟨od, hod, _⟩ := lookIn_ns hn
      exact fin (PySem.W.kitx_exc (x := a) (od := some od) (by obtain ⟨cd, hc, _⟩ := PySem.W.any_some ik.hd; rw [hc]; rfl) ik.hg ik.hk ik.hs ik.ha ik.hn ik.ht ik.hm) ⟨ho, rfl, rfl, hod⟩ (fun z => nomatch z) e
    | clo n cap => cases ht
def rIsaD (G : Glo) (isa : TC → CRf → Option Bool) (cr : CRf) : List V → Hp → VK → Prop := fun xs H Q => ∃ x c, xs = [x, c] ∧ cr.v G = some c ∧ rP1 G (isaD isa cr) x H Q
theorem call_isaD {isa : TC → CRf → Option Bool} {cr : CRf} (ok : IsaOk X.K G isa) (hK : G.K = X.K) : CallR X (.builtin "isinstance") (rIsaD G isa cr) := by
  intro pins s σ H xs us Q I r h
  obtain ⟨x, c, rfl, hc, F, d, r0, hs, vd, hf, pq⟩ := h
  obtain ⟨u1, u2, rfl, r1, r2⟩ := vals2 r
  unfold isaD at hf
  cases hb : isaB isa cr d with
  | none => rw [hb] at hf; cases hf
  | some b =>
    rw [hb] at hf; cases hf
    exact isa_call ok hK I hs vd hb hc r1 r2 (pq F H _ (Pure.refl hs) rfl)
/-- isinstance(e, c) -/
theorem s_isi {isa : TC → CRf → Option Bool} {cr : CRf} {e c : Expr} {cv : V} {p pos : Pos} {m : List Sl → Out Ar} (ok : IsaOk X.K G isa) (hK : G.K = X.K) (he : PE X e (tO G W m)) (hc : PE X c (tC cv)) (hv : cr.v G = some cv) (hg : Gl X "isinstance") (hm : X.mg "isinstance" = none)
    (hs : starEach [e, c] X.env = [(false, eval e X.env), (false, eval c X.env)]) (hs2 : starEach [c] X.env = [(false, eval c X.env)]) (hpl : (backTo pos [(false, eval c X.env)]).any (·.1) = false) : PE X (.Call (.Name "isinstance" p) [e, c] [] pos) (tM G W (m1 (isaD isa cr) m)) := by
  exact (pe_callB (call_isaD ok hK) hg hm (by first | rfl | decide +kernel) (pa_cons he (pa_cons hc pa_nil hs2) (by rw [hs, hs2])) (by decide) (by decide) (by rw [hs, hs2]) (by rw [hs2]; exact hpl)).weak fun σ H Q ⟨F, own, env, hs, E, q⟩ =>
    ⟨F, own, env, hs, E, q.bind rEV_mono fun x e1 F1 H1 own1 vx st1 E1 rx q1 => ⟨vx, cv, rfl, hv, fin1_res st1.sub E1 rx q1⟩⟩

/-! ### attributes -/
/-- what an error's class must have for its instances' fields to be read -/
def excAt (xk : Nat → Bool) (d : D) : Option EV := match d with
  | .exc c w => if xk c then some (.val w) else none
  | _ => none
theorem s_value {e : Expr} {p : Pos} {m : List Sl → Out Ar} {xk : Nat → Bool} (hx : ∀ c C, G.cls c = some C → xk c = true → XfC X.K C ∧ PySem.W.findIn X.K (.ref C) "value" = some none) (he : PE X e (tO G W m)) (hb : attributeBase e "value" X.env (eval e X.env) = eval e X.env) :
    PE X (.Attribute e "value" p) (tM G W (m1 (excAt xk) m)) := by
  refine PE.weak (t := fun σ H Q => tO G W m σ H fun x H1 => rP1 G (excAt xk) x H1 Q) ⟨fun pins s σ H Q I h => ?_⟩ fun σ H Q ⟨F, own, env, hs, E, q⟩ => ⟨F, own, env, hs, E, q.bind rEV_mono fun x e1 F1 H1 own1 vx st1 E1 rx q1 => fin1_res st1.sub E1 rx q1⟩
  refine attr_of hb (thn (he.run pins s σ H _ I h) fun u s1 hh => ?_)
  obtain ⟨x, H1, I1, rx, F1, d, r, hs, vd, hf, pq⟩ := hh
  cases d with
  | exc k w =>
    have hf : (if xk k then some (EV.val w) else none) = some r := hf
    split at hf <;> cases hf
    rename_i hxk
    unfold View Rep at vd
    obtain ⟨a, dd, C, w', rfl, h1, h2, h3, h4⟩ := vd
    rcases hx k C h1 hxk with ⟨T, hno⟩
    · obtain rfl : u = Value.ref a := rx
      obtain ⟨t1, ho⟩ := exo_at I1.hok (hs _ _ h2)
      obtain ⟨mA, hn, hr⟩ := exd_at I1.hok (hs _ _ h3)
      obtain ⟨od, hod, hl⟩ := lookIn_ns hn
      obtain ⟨u, hu, ru⟩ := RelO.some_of (v := w') (o := mA "value") (hr "value")
      have J : PySem.W.InstAt s1.heap a _ C (some od) := ⟨ho, rfl, rfl, hod⟩
      exact HandSPX.exc_get I1.kIn J T.ga T.gg T.exC (PySem.W.findObj_own T.hdC hno rfl (by rw [hl, hu])) (handed_of ru) ⟨w', H1, I1.tok _, ru, pq F1 H1 w' (Pure.refl hs) h4⟩
  | _ => cases hf
end
end PyI

set_option Elab.async false
set_option linter.all false
set_option maxRecDepth 100000
/-! PyI: an own error is made: X(value), __init__ saying super().__init__(value). -/
namespace PyI
open PySem PySem.Spec L2 PyProof.Rows
set_option autoImplicit false

/-- __init__'s words -/
structure XI where
  fI : Addr
  cc : Addr
  cda : Addr
  GE : Addr
  p0 : Pos
  p1 : Pos
  p2 : Pos
  p3 : Pos
  p4 : Pos
  p5 : Pos
  p6 : Pos
  p7 : Pos
  p8 : Pos
  p9 : Pos
  qual : Str
  params : Arguments
  scope : Scope
def XI.body (W : XI) : List Stmt :=
  [.Expr (.Call (.Attribute (.Call (.Name "super" W.p0) [] [] W.p1) "__init__" W.p2) [.Name "value" W.p3] [] W.p4) W.p5,
   .Assign [.Attribute (.Name "self" W.p6) "value" W.p7] (.Name "value" W.p8) W.p9]
def XI.nf (W : XI) : NdefX.NF := ⟨"__init__", W.qual, W.params, W.body, W.scope, [("__class__", W.cc)], W.cda⟩
abbrev xN : List Str := ["self", "value", "__class__"]
/-- what the written part says of __init__ -/
structure XiOk (P : Program) (K : PySem.W.Frag) (mg : Str → Option Value) (W : XI) : Prop where
  lk : ∃ od doc pm ct sl, K.lookup W.fI = some ⟨.type "function", od, .func (W.nf.fd doc pm ct), sl⟩
  code : PySem.W.codeIn K (.ref W.cda) W.qual = true
  file : ∃ ccl cdd vs ccs file tf, K.lookup W.cda = some ⟨ccl, cdd, .fields vs, ccs⟩ ∧ vs[2]? = some (.str file tf) ∧ ((P.main.file : Str) == file) = true
  cell : ∃ cl cld csl, K.lookup W.cc = some ⟨cl, cld, .cell (some (.ref W.GE)), csl⟩
  cls : (PySem.W.clsIn K W.GE).isSome = true
  S : NdefX.NScope xN ["self", "value"] ["__class__"] W.scope
  sup : W.scope.names.lookup ("super" : Str) = some .globalImplicit
  mgS : mg "super" = none
  top : (P.main.scope.names.lookup ("super" : Str)).isSome = false
  par : ∃ ar, (W.params.posonlyargs ++ W.params.args).head? = some ar ∧ ar.arg = "self"
  bind : ∀ (doc pm ct : Value) (us : List Value), us.length = 2 → bindArgs (W.nf.fd doc pm ct) ⟨us, []⟩ = pure ((["self", "value"] : List Str).zip us)
  he : ∀ env : Env, ∃ pl, eval (.Call (.Attribute (.Call (.Name "super" W.p0) [] [] W.p1) "__init__" W.p2) [.Name "value" W.p3] [] W.p4) env = (do
      let ov ← attributeBase (.Call (.Name "super" W.p0) [] [] W.p1) "__init__" env (eval (.Call (.Name "super" W.p0) [] [] W.p1) env)
      standAt W.p2.atName
      let (f, first) ← holding [ov] (getMethod ov "__init__" pl)
      callWith W.p4 f first (backTo W.p4 (starEach [.Name "value" W.p3] env)) [])
  opq : PySem.W.nsIn K cStatics "thirdparty.any" = some none
/-- what it says of an error's class -/
structure XcOk (K : PySem.W.Frag) (W : XI) (C : Addr) : Prop where
  T : OexC K C
  ini : PySem.W.findIn K (.ref C) "__init__" = some (some (.ref W.fI))
  ty : PySem.W.typeIn K (.ref W.fI) = some (.type "function")
  mro : PySem.W.mroIn K C (.ref W.GE) = some true
  sup : PySem.W.ks_superIn K C W.GE "__init__" = some (some (.builtin "ValueError.__init__"))
  sub : PySem.W.subIn K (.ref C) (.type "ValueError") = some true
  noV : PySem.W.findIn K (.ref C) "value" = some none

section
variable {CX : CXT} {P : Program} {w : World} {K : PySem.W.Frag} {mg : Str → Option Value} {base : Heap} {W : XI} {A : Around} {outer : List Env} {s : Shared} {H : Hp} {E : XK} {e C : Addr} {v : V} {u : Value} {Q : VK}
theorem upd_id {H : Hp} {a : Addr} {o : HO} (e : H a = some o) : upd H a o = H := by
  funext b
  by_cases hb : b = a
  · rw [hb, upd_same, e]
  · rw [upd_ne hb]
/-- __init__ runs -/
theorem xinit_run (T : XiOk P K mg W) (TC : XcOk K W C) (hr : Room 1 A) (e0 : Env0 P w K mg base A outer s H) (he : H e = some (exo e C none)) (rv : RelV v u)
    (h : ∀ d H', (∀ b o, b ≠ e → H b = some o → H' b = some o) → H d = none → d ≠ e → H' e = some (exo e C (some d)) → H' d = some (exd d [("value", v)]) → Q .non H') :
    codeAny (model P w) A (.call (.ref W.fI) ⟨[.ref e, u], []⟩) (CR CX outer P w H s Q E) s := by
  have KX : K.In s.heap := e0.mod.kin.keeps fun b o e => (e0.bs b o e).1
  have lim : s.heap.NoLimit := e0.mod.nolimit.keeps fun b o e => (e0.bs b o e).1
  obtain ⟨od, doc, pm, ct, sl, lk⟩ := T.lk
  obtain ⟨ccl, cdd, vs, ccs, file, tf, hcode, hvs, hfile⟩ := T.file
  obtain ⟨cl, cld, csl, hcell⟩ := T.cell
  have hcc : H W.cc = none := (e0.bs _ _ (e0.mod.kin _ _ hcell)).2
  obtain ⟨ar, hp, harg⟩ := T.par
  obtain ⟨cdD, hD⟩ := Option.isSome_iff_exists.mp T.cls
  refine codeAny_call_function hr.depth (KX _ _ lk) rfl T.S.co T.S.gen rfl (PySem.W.codeRec_of KX T.code) ?_
  rw [T.bind doc pm ct [.ref e, u] rfl]
  refine wpAny_pure (wpAny_newFunctionEnv T.S.nocell (fun ⟨n, _⟩ hy => T.S.par n (List.of_mem_zip hy).1) (fun h₁ hns hsb => ⟨lim.fresh _ hsb, ?_⟩) T.S.kind)
  show codeAny _ _ (.func W.body (NdefX.envF W.nf W.fI s.heap.objs.size)) _ _
  refine ks_codeAny_funcAt ?_
  have kp : ∀ b o, s.heap.get? b = some o → h₁.get? b = some o := fun b o e => hsb.extBut b o (Nat.ne_of_lt (Heap.lt_size e)) (Heap.get?_push_of_some _ e)
  have CA : NdefX.CellsAt W.nf.cl ["__class__"] [some (.ref W.GE)] s.heap H := by
    have look : ∀ {y c}, W.nf.cl.lookup y = some c → y = "__class__" ∧ c = W.cc := fun {y c} hl => by
      have hm := PySem.mem_of_lookup hl
      have hm : (y, c) ∈ [(("__class__" : Str), W.cc)] := hm
      simp at hm
      exact hm
    refine ⟨rfl, fun y c hl => ?_, fun x y c h1 h2 => ?_, fun i y hi => ?_⟩
    · obtain ⟨_, rfl⟩ := look hl
      exact ⟨hcc, _, ⟨_, KX _ _ hcell, rfl⟩⟩
    · rw [(look h1).1, (look h2).1]
    · cases i with
      | zero =>
        simp at hi; subst hi
        exact ⟨W.cc, by show List.lookup _ [(("__class__" : Str), W.cc)] = _; simp [List.lookup], fun v hv => by simp at hv; subst hv; exact ⟨_, rfl, ⟨_, KX _ _ hcell, rfl⟩⟩⟩
      | succ i => simp at hi
  have I : Inv (NdefX.ncx CX P w K mg base xN W.nf W.fI A outer s H E) [] (NdefX.startF xN [.ref e, v] [some (.ref W.GE)]) H { s with heap := h₁, toks := s.toks + ((["self", "value"] : List Str).zip [.ref e, u]).length } :=
    NdefX.inv_startN T.S hr.hd e0 rfl (.cons rfl (.cons rv .nil)) CA hns kp
  have hl : HOk P w H h₁ := I.hok
  have g1 : ∀ b o, K.lookup b = some o → h₁.get? b = some o := fun b o q => kp _ _ (KX _ _ q)
  have KI : K.In h₁ := g1
  obtain ⟨t1, ho⟩ := exo_at (P := P) (w := w) I.hok he
  obtain ⟨oD, hD1, hD2⟩ : ∃ oD, h₁.get? W.GE = some oD ∧ oD.data = .cls cdD := by
    unfold PySem.W.clsIn at hD
    split at hD
    · rename_i c d cd' sl ho
      cases hD
      exact ⟨_, g1 _ _ ho, rfl⟩
    · cases hD
  refine ks_wpAt_execs_cons ?_
  obtain ⟨pl, hev⟩ := T.he (NdefX.envF W.nf W.fI s.heap.objs.size)
  refine ks_wpAt_Expr_any ?_ (by unfold interactive; rw [show (NdefX.envF W.nf W.fI s.heap.objs.size).scope.kind = .function from T.S.kind]; rfl)
  refine ks_wpAt_MethodCall ?_ hev
  refine ks_wpAt_super_base (env := NdefX.envF W.nf W.fI s.heap.objs.size) T.sup (T.S.frk _ (by simp)) (by decide) rfl (g1 _ _ lk) rfl hp rfl (g1 _ _ hcode) rfl hvs hfile T.top ?_
  obtain ⟨mb, hb1, hb2⟩ := I.mod.blt
  refine PySem.W.ks_loadName_global T.S.kind T.sup (Calls.loadGlobal_builtin (I.mod.glob.keeps I.bk) T.mgS (hb1.keeps I.bk) ((hb2 "super" (by decide)).trans (by first | rfl | decide +kernel)) ⟨rfl, ?_⟩)
  refine wpAny_loadName_free T.S.kind (T.S.frk _ (by simp)) rfl ⟨_, g1 _ _ hcell, rfl⟩ ?_
  rw [harg]
  refine wpAny_loadName_local (v := .ref e) T.S.kind (T.S.par _ (by simp)) hns (NdefX.zip_look (ps := ["self", "value"]) (i := 0) (by decide) rfl rfl) ?_
  refine ks_wpAny_isType_cls hD1 hD2 ⟨rfl, ?_⟩
  refine ks_wpAny_call_super hD1 hD2 ho rfl (fun c q => by cases q) (PySem.W.looks_mroIn KI TC.mro) (fun h2 hs2 k2 => ?_)
  have I2 := I.kept (t' := s.toks + ((["self", "value"] : List Str).zip [Value.ref e, u]).length) k2
  have KI2 : K.In h2 := fun b o q => k2 _ _ (KI b o q)
  have J2 : PySem.W.InstAt h2 e _ C none := ⟨k2 _ _ ho, rfl, rfl, trivial⟩
  have hI : PySem.W.Looks (model P w) h2 (isInstance (.ref e) (.type "ValueError")) true := J2.type.andThen (PySem.W.looks_subIn KI2 TC.sub)
  obtain ⟨cdC, hcC, hsup⟩ : ∃ cd, PySem.W.clsIn K C = some cd ∧ PySem.W.alongIn K "__init__" ((cd.mro.dropWhile (· != .ref W.GE)).drop 1) = some (some (.builtin "ValueError.__init__")) := by
    have q := TC.sup
    unfold PySem.W.ks_superIn at q
    cases hc : PySem.W.clsIn K C with
    | none => rw [hc] at q; cases q
    | some cd => rw [hc] at q; exact ⟨cd, rfl, q⟩
  refine PySem.W.kxs_getMethod PySem.W.kxs_ValueError hs2 (PySem.W.looks_opaque KI2 T.opq) (l₀ := cdC.mro) (fun A Q E s k q => wpAny_bind ((PySem.W.looks_clsIn KI2 hcC) A _ E s k (wpAny_pure q))) rfl KI2 hsup hI (PySem.W.ks_ne KI2 J2 hcC) (by decide) ?_
  have I3 := I2.laid (t' := s.toks + ((["self", "value"] : List Str).zip [Value.ref e, u]).length + 1) (a := h2.objs.size) (h' := h2.push (PySem.W.kxs_mw "ValueError.__init__" e)) (o := .ext fun h => h.get? h2.objs.size = some (PySem.W.kxs_mw "ValueError.__init__" e)) (fun b o q => Heap.get?_push_of_some _ q) (Nat.le_refl _) ⟨Heap.get?_push_at rfl rfl, ⟨_, Heap.get?_push_at rfl rfl⟩, fun h1 h2 q st => st _ q⟩
  refine PySem.W.kxs_callWith (i := "ValueError.__init__") (x := e) rfl (Calls.evalArgs_plain (Calls.spliced_cons ?_))
  refine thn ((pe_var (X := NdefX.ncx CX P w K mg base xN W.nf W.fI A outer s H E) (pos := W.p3) (x := "value") (i := 1) rfl (.inl (T.S.par _ (by simp))) (by decide) (by decide)).run [] _ _ _ (fun v' H' => v' = v ∧ H' = _) I3 ⟨v, rfl, rfl, rfl⟩) fun u4 s4 ⟨v4, H4, I4, r4, ev, eH⟩ => ?_
  subst ev eH
  have hmw : s4.heap.get? h2.objs.size = some (PySem.W.kxs_mw "ValueError.__init__" e) := (I4.hok h2.objs.size _ upd_same).1
  refine Calls.spliced_nil ⟨hmw, ?_⟩
  have ne2 : e ≠ h2.objs.size := Nat.ne_of_lt (Heap.lt_size (k2 _ _ ho))
  have he3 : upd H h2.objs.size (.ext fun h => h.get? h2.objs.size = some (PySem.W.kxs_mw "ValueError.__init__" e)) e = some (exo e C none) := by rw [upd_ne ne2]; exact he
  obtain ⟨t4, ho4⟩ := exo_at I4.hok he3
  obtain ⟨nm, q, Nn, bs, bm, sn, sub, ab, col, dd, k0, k1, kk2, k3, k5, hC, hbm⟩ := TC.T.cls
  obtain ⟨hh, g, d, tk, os⟩ := s4
  show wpAny _ _ (call (.ref h2.objs.size) [u4]) _ _ _
  refine wpAny_call (codeAny_of_tree ?_)
  show wpAny _ (_ : Around).in1 (callAny (.ref h2.objs.size) ⟨[u4], []⟩) _ _ _
  simp only [callAny]
  refine wpAny_bind (wpAny_load hmw ?_)
  simp only [PySem.W.kxs_mw, show (Value.type "method-wrapper" == Value.type "method" || Value.type "method-wrapper" == Value.type "builtin_function_or_method" || Value.type "method-wrapper" == Value.type "method-wrapper") = true by decide, if_true]
  refine PySem.W.KFB.if_so (by decide) ?_
  refine wpAny_bind (PySem.W.check_bound_init F.excBase_ValueError.toExcCallFacts (I4.kIn _ _ hC) ho4 rfl ?_)
  refine wpAny_bind (wpAny_pure (wpAny_pure ?_))
  refine ⟨plainId_quiet F.excBase_ValueError.init.plain _, codeAny_builtin F.excBase_ValueError.initEntry ?_⟩
  refine PySem.W.exc_init_tree ho4 (by show 1 ≤ sizeLine; decide) fun h5 kk5 e5 _ => ?_
  have I5 := I4.write (t' := tk) (x := e) (e := e) (o := exo e C none) (by rw [he3]; exact True.intro) (.inl rfl) kk5 ⟨_, e5⟩ (exo_ok e5)
  rw [upd_id he3] at I5
  have ps2 := ps_ost (X := NdefX.ncx CX P w K mg base xN W.nf W.fI A outer s H E) (f := "value") (pos := W.p9) (p' := W.p7) (pe_var (x := "self") (pos := W.p6) (i := 0) rfl (.inl (T.S.par _ (by simp))) (by decide) (by decide)) (pe_var (x := "value") (pos := W.p8) (i := 1) rfl (.inl (T.S.par _ (by simp))) (by decide) (by decide))
  refine wpAt_of_wpAny ?_
  refine wpAny_mono ((pss_one ps2).run [] _ _ _ { nx := fun _ H' => Q .non H', rt := Q } I5 ⟨v4, rfl, .ref e, rfl, e, C, rfl, TC.T, TC.noV, .inl ⟨he3, fun dx n1 n2 => ?_⟩⟩) (fun fl s' hs => ?_) fun e s' hs => hs
  · show Q .non _
    have nd : H dx = none := by
      by_cases z : dx = h2.objs.size
      · subst z; rw [upd_same] at n1; cases n1
      · rw [upd_ne z] at n1; exact n1
    refine h dx _ (fun b o hb q => ?_) nd n2 upd_same ?_
    · rw [upd_ne hb, upd_ne (ne_of_none q nd), upd_ne (ne_of_none q (I2.hok.fresh (Nat.le_refl _)))]; exact q
    · rw [upd_ne n2, upd_same]
  · cases fl with
    | ret u' =>
      obtain ⟨v', σ', H', J, rv', q⟩ := hs
      exact ⟨v', H', J.os, J.bare, J.base, J.hok, rv', q⟩
    | next =>
      obtain ⟨σ', H', J, q⟩ := hs
      exact ⟨.non, H', J.os, J.bare, J.base, J.hok, rfl, q⟩
    | brk => obtain ⟨_, _, _, q⟩ := hs; exact False.elim q
    | cont => obtain ⟨_, _, _, q⟩ := hs; exact False.elim q
end

/-! ### X(e) -/
/-- the new error lies in the heap -/
def tMkE (C : Addr) (te : TE) : TE := fun σ H Q => te σ H fun v H1 => ∀ a d H2, (∀ b o, H1 b = some o → H2 b = some o) → H1 a = none → H1 d = none → d ≠ a → H2 a = some (exo a C (some d)) → H2 d = some (exd d [("value", v)]) → Q (.ref a) H2
section
variable {X : Cx} {W : XI} {C : Addr} {x : Str} {p pos : Pos} {e : Expr} {te : TE}
theorem mkE_run {pins : List (Addr × Obj)} {σ : L2.St} {H1 : Hp} {s1 : Shared} {v : V} {u : Value} {Q : Value → Shared → Prop} (T : XiOk X.prog X.K X.mg W) (TC : XcOk X.K W C) (hr : Room 2 X.A) (I1 : Inv X pins σ H1 s1) (r1 : RelV v u)
    (k : ∀ (a d : Addr) (H2 : Hp) (s2 : Shared), s1.heap.objs.size ≤ a → H1 d = none → d ≠ a → (∀ b o, H1 b = some o → H2 b = some o) → H2 a = some (exo a C (some d)) → H2 d = some (exd d [("value", v)]) →
      (∃ I0 : Shared, (∀ b o, s1.heap.get? b = some o → I0.heap.get? b = some o) ∧ s2.os = s1.os ∧ AllBare s2.gens ∧ Un (frs X.stack) [] (upd H1 a (exo a C none)) H2 I0.heap s2.heap ∧ HOk X.prog X.w H2 s2.heap) → Inv X pins σ H2 s2 → Q (.ref a) s2) :
    wpAny (model X.prog X.w) X.A (call (.ref C) [u]) Q X.xe s1 := by
  obtain ⟨nm, q, N, bs, bm, sn, sub, ab, col, dd, k0, k1, k2, k3, k5, hC, hbm⟩ := TC.T.cls
  obtain ⟨hp, g, dr, tk, os⟩ := s1
  have hsz : hp.objs.size ≤ hp.objs.size + 1 := Nat.le_succ _
  have hn : H1 (hp.objs.size + 1) = none := I1.hok.fresh hsz
  have kk : ∀ b o, hp.get? b = some o → ((hp.push (PySem.W.kdv_tup [u])).push (PySem.HandSPX.excO C hp.objs.size)).get? b = some o := fun b o e => Heap.get?_push_of_some _ (Heap.get?_push_of_some _ e)
  have hget : ((hp.push (PySem.W.kdv_tup [u])).push (PySem.HandSPX.excO C hp.objs.size)).get? (hp.objs.size + 1) = some (PySem.HandSPX.excO C hp.objs.size) := by heap_get
  have I2 : Inv X pins σ (upd H1 (hp.objs.size + 1) (exo (hp.objs.size + 1) C none)) ⟨(hp.push (PySem.W.kdv_tup [u])).push (PySem.HandSPX.excO C hp.objs.size), g, dr, tk, os⟩ :=
    I1.laid (t' := tk) (a := hp.objs.size + 1) (o := exo (hp.objs.size + 1) C none) (h' := (hp.push (PySem.W.kdv_tup [u])).push (PySem.HandSPX.excO C hp.objs.size)) kk hsz (exo_ok hget)
  refine wpAny_call (PySem.HandSPX.call_own F.excBase_ValueError (fun Y => PySem.HandSPX.refsVE_contains Y bm hbm) (I1.kIn _ _ hC) (PySem.W.looks_findIn I1.kIn TC.ini) (fun self => PySem.W.bind_fn I1.kIn self TC.ty) (by show 1 ≤ sizeLine; decide)
    (codeAny_mono (xinit_run (CX := L2.CX X.prog X.w) (E := fun _ _ _ => False) (v := v) (Q := fun v' H2 => v' = .non ∧ ∃ d, (∀ b o, H1 b = some o → H2 b = some o) ∧ H1 d = none ∧ d ≠ hp.objs.size + 1 ∧ H2 (hp.objs.size + 1) = some (exo (hp.objs.size + 1) C (some d)) ∧ H2 d = some (exd d [("value", v)])) T TC (hr.make C [u] []) (I2.env0.make C [u] []) upd_same r1
      fun d H' a1 a2 a3 a4 a5 => ⟨rfl, d, fun b o q => a1 b o (ne_of_none q hn) (by rw [upd_ne (ne_of_none q hn)]; exact q), by rw [upd_ne a3] at a2; exact a2, a3, a4, a5⟩) fun r s' hq' => ?_))
  cases r with
  | error er => exact passes_call (X := X) (E := fun _ _ _ => False) LamX.takes0 (fun _ _ _ _ z => z) pins σ _ _ er s' I2 hq'
  | ok fl =>
    cases fl with
    | ret w' =>
      obtain ⟨v', H2, os2, bare2, un2, hok2, rv, ev, d, h1, h2, h3, h4, h5⟩ := hq'
      subst ev
      obtain ⟨h2', g2, d2, t2, os'⟩ := s'
      have os2 : os' = os := os2
      subst os2
      refine ⟨rv, ?_⟩
      exact k _ d H2 _ hsz h2 h3 h1 h4 h5 ⟨⟨_, g, dr, tk, os'⟩, kk, rfl, bare2, un2, hok2⟩ (I2.call (g' := g2) (d' := d2) (t' := t2) (ch := []) un2 hok2 bare2 (fun b z => absurd z (by simp)))
    | next => exact False.elim hq'
    | brk => exact False.elim hq'
    | cont => exact False.elim hq'
theorem pe_mkE (T : XiOk X.prog X.K X.mg W) (TC : XcOk X.K W C) (hr : Room 2 X.A) (hg : Gl X x) (hm : X.mg x = some (.ref C)) (he : PE X e te) (hdb : (x == ("__debug__" : Str)) = false) (hs : starEach [e] X.env = [(false, eval e X.env)]) :
    PE X (.Call (.Name x p) [e] [] pos) (tMkE C te) := by
  refine ⟨fun pins s σ H Q I h => ?_⟩
  refine wpAny_Call_Name_kw (ld_glob I hg hm ?_ hdb)
  have hs0 : starEach [] X.env = [] := rfl
  refine PySem.W.callWith_K (h₀ := X.base) I.ok.mod.kin TC.T.kC ?_ (by rw [hs, hs0]) (by rw [hs0]; rfl)
  refine thn ((pa_cons he pa_nil (by rw [hs, hs0])).run pos pins s σ H (fun vs H1 => match vs with
    | [v] => ∀ a d H2, (∀ b o, H1 b = some o → H2 b = some o) → H1 a = none → H1 d = none → d ≠ a → H2 a = some (exo a C (some d)) → H2 d = some (exd d [("value", v)]) → Q (.ref a) H2
    | _ => False) I h) fun us s1 ⟨vs, H1, I1, r1, q⟩ => ⟨I1.kIn, ?_⟩
  cases r1 with
  | nil => exact q.elim
  | @cons v u vs us rv r2 =>
    cases r2 with
    | cons _ _ => exact q.elim
    | nil =>
      refine mkE_run T TC hr I1 rv fun a d H2 s2 n1 n2 n3 h1 h2 h3 _ J => ⟨.ref a, H2, J, rfl, q a d H2 h1 (I1.hok.fresh n1) n2 n3 h2 h3⟩
/-- .. to be raised -/
def tMkR (C : Addr) (te : TE) : L2.St → Hp → XK → Prop := fun σ H Q => te σ H fun v H1 => ∀ d H2, (∀ b o, H1 b = some o → H2 b = some o) → H1 d = none → H2 d = some (.xd [("value", v)]) → Q (.ref C) (some d) H2
theorem pmk_mkE (T : XiOk X.prog X.K X.mg W) (TC : XcOk X.K W C) (hr : Room 2 X.A) (hg : Gl X x) (hm : X.mg x = some (.ref C)) (he : PE X e te) (hdb : (x == ("__debug__" : Str)) = false) (hs : starEach [e] X.env = [(false, eval e X.env)]) :
    L2.PMk X (.Call (.Name x p) [e] [] pos) (tMkR C te) := by
  intro pins s σ H Q I h
  refine wpAny_Call_Name_kw (ld_glob I hg hm ?_ hdb)
  have hs0 : starEach [] X.env = [] := rfl
  refine PySem.W.callWith_K (h₀ := X.base) I.ok.mod.kin TC.T.kC ?_ (by rw [hs, hs0]) (by rw [hs0]; rfl)
  refine thn ((pa_cons he pa_nil (by rw [hs, hs0])).run pos pins s σ H (fun vs H1 => match vs with
    | [v] => ∀ d H2, (∀ b o, H1 b = some o → H2 b = some o) → H1 d = none → H2 d = some (.xd [("value", v)]) → Q (.ref C) (some d) H2
    | _ => False) I h) fun us s1 ⟨vs, H1, I1, r1, q⟩ => ⟨I1.kIn, ?_⟩
  cases r1 with
  | nil => exact q.elim
  | @cons v u vs us rv r2 =>
    cases r2 with
    | cons _ _ => exact q.elim
    | nil =>
      refine mkE_run T TC hr I1 rv fun a d H2 s2 n1 n2 n3 h1 h2 h3 ⟨I0, z1, z2, z3, z4, z5⟩ J => ?_
      obtain ⟨hp, g, dr, tk, os⟩ := s1
      obtain ⟨h2', g2, d2, t2, os'⟩ := s2
      have na := I1.hok.fresh n1
      exact mk_end (raises_own TC.T.exC TC.T.tyC) I1 n1 z1 z4 z5 z2 z3 h2 h3 n2 (q d _ (fun b o e => by
        rw [upd_ne (ne_of_none e n2), del_ne (ne_of_none e na)]; exact h1 b o e) n2 upd_same)
end
end PyI

set_option Elab.async false
set_option linter.all false
set_option maxRecDepth 100000
/-! PyI: defs that know that no repr runs around them. -/
namespace PyI
open PySem PySem.Spec L2
set_option autoImplicit false
structure RoomG (k : Nat) (A : Around) : Prop where
  r : Room k A
  g : A.guards = some []
theorem RoomG.mono {j k : Nat} {A : Around} (h : RoomG k A) (l : j ≤ k) : RoomG j A := ⟨h.r.mono l, h.g⟩
theorem RoomG.deeper {k : Nat} {A : Around} (h : RoomG (k + 1) A) (env : Env) : RoomG k (A.deeper env) := ⟨h.r.deeper env, h.g⟩
theorem RoomG.in1 {k : Nat} {A : Around} (h : RoomG (k + 1) A) : RoomG k A.in1 := ⟨h.r.in1, h.g⟩
structure FnG (P : Program) (w : World) (K : PySem.W.Frag) (mg : Str → Option Value) (base : Heap) (CX : CXT) (k : Nat) (f : Addr) (fd : FuncData) (ps : List Str) (sp : Sp) : Prop where
  len : ∀ vs H Q E, sp vs H Q E → vs.length = ps.length
  run : ∀ (A : Around) (outer : List Env) (s : Shared) (H : Hp) (args : Args) (us : List Value) (vs : List V) (Q : VK) (E : XK), RoomG k A → Env0 P w K mg base A outer s H → BindsTo s fd args (ps.zip us) → Vals vs us → sp vs H Q E →
    codeAny (model P w) A (.call (.ref f) args) (CR CX outer P w H s Q E) s
section
variable {P : Program} {w : World} {K : PySem.W.Frag} {mg : Str → Option Value} {base : Heap} {CX : CXT} {j k : Nat} {f : Addr} {fd : FuncData} {ps : List Str} {sp : Sp}
theorem FnG.mono (F : FnG P w K mg base CX j f fd ps sp) (h : j ≤ k) : FnG P w K mg base CX k f fd ps sp := ⟨F.len, fun A outer s H args us vs Q E hr => F.run A outer s H args us vs Q E (hr.mono h)⟩
theorem fnG_of {name qual : Str} {params : Arguments} {body : List Stmt} {scope : Scope} {dV kV doc pm cdv ct oc : Value} {an od : Option Addr} {osl : Array (Option Value)} {N : List Str} (lk : K.lookup f = some ⟨oc, od, .func (PySem.W.fnOf name qual params body scope dV kV doc pm an cdv ct), osl⟩) (hcd : PySem.W.codeIn K cdv qual = true) (S : FnScope N ps scope)
    (len : ∀ vs H Q E, sp vs H Q E → vs.length = ps.length)
    (hbody : ∀ (A : Around) (outer : List Env) (s : Shared) (H : Hp) (vs : List V) (Q : VK) (E : XK), RoomG k (A.deeper (PyProof.Rows.envOfC qual scope s.heap.objs.size f cdv)) → sp vs H Q E →
      ∃ t, PSs (cxOf CX P w K mg base N qual scope f cdv A outer s H E) body t ∧ t { nx := fun _ H' => Q .non H', rt := Q } (L2.start N vs) H) :
    FnG P w K mg base CX (k + 1) f (PySem.W.fnOf name qual params body scope dV kV doc pm an cdv ct) ps sp :=
  ⟨len, fun A outer s H args us vs Q E hr e0 hb r hsp => LamX.run_ofS lk hcd S hr.r e0 hb r (len _ _ _ _ hsp) fun hr' => hbody A outer s H vs Q E ⟨hr', hr.g⟩ hsp⟩
theorem funG {x qual : Str} {st : Stmt} {N : List Str} (F : L2.Fun K x qual st f fd) (S : FnScope N ps (defScope st)) (len : ∀ vs H Q E, sp vs H Q E → vs.length = ps.length)
    (hbody : ∀ (cdv : Value) (A : Around) (outer : List Env) (s : Shared) (H : Hp) (vs : List V) (Q : VK) (E : XK), RoomG k (A.deeper (PyProof.Rows.envOfC qual (defScope st) s.heap.objs.size f cdv)) → sp vs H Q E →
      ∃ t, PSs (cxOf (L2.CX P w) P w K mg base N qual (defScope st) f cdv A outer s H E) (defBody st) t ∧ t { nx := fun _ H' => Q .non H', rt := Q } (L2.start N vs) H) : FnG P w K mg base (L2.CX P w) (k + 1) f fd ps sp := by
  obtain ⟨oc, od, kV, doc, pm, an, cdv, ct, osl, rfl, lk, hcd⟩ := F.ex
  exact fnG_of lk hcd S len fun A outer s H vs Q E hr hsp => hbody cdv A outer s H vs Q E hr hsp
end
section
variable {X : Cx} {CX : CXT} {k : Nat} {f : Addr} {fd : FuncData} {ps : List Str} {sp : Sp} {ds : List Value} {dvs : List V} {E : XK} {x : Str} {p pos : Pos} {e : Expr} {es : List Expr} {t : TA}
theorem run_fnG {pins : List (Addr × Obj)} {σ : L2.St} {H : Hp} {s : Shared} {Q : VK} {us : List Value} {vs : List V} (F : FnG X.prog X.w X.K X.mg X.base CX k f fd ps sp) (hr : RoomG k X.A) (hb : L2.Binds X.K fd ps ds) (hd : Vals dvs ds) (hx : Passes CX X E)
    (I : Inv X pins σ H s) (r : Vals vs us) (h : sp (vs ++ dvs) H Q E) : wpAny (model X.prog X.w) X.A (call (.ref f) us) (EP X pins σ Q) X.xe s := by
  have hl : (us ++ ds).length = ps.length := by rw [← (r.append hd).length]; exact F.len _ _ _ _ h
  refine wpAny_call (codeAny_mono (F.run X.A X.stack s H ⟨us, []⟩ (us ++ ds) (vs ++ dvs) Q E hr I.env0 (hb s us I.kIn hl) (r.append hd) h) fun r s' hq => ?_)
  cases r with
  | error e => exact hx pins σ H s e s' I hq
  | ok fl =>
    cases fl with
    | ret u => exact I.after hq
    | next => exact False.elim hq
    | brk => exact False.elim hq
    | cont => exact False.elim hq
theorem pe_callG (F : FnG X.prog X.w X.K X.mg X.base CX k f fd ps sp) (hr : RoomG k X.A) (hg : Gl X x) (hm : X.mg x = some (.ref f)) (hk : PySem.W.keepIn X.K (.ref f) = true) (hb : L2.Binds X.K fd ps ds) (hd : Vals dvs ds) (hx : Passes CX X E)
    (ha : PA X (e :: es) t) (hdb : (x == ("__debug__" : Str)) = false) (he : starEach (e :: es) X.env = (false, eval e X.env) :: starEach es X.env) (hpl : (backTo pos (starEach es X.env)).any (·.1) = false) :
    PE X (.Call (.Name x p) (e :: es) [] pos) (tCall sp dvs E t) :=
  ⟨fun pins s σ H Q I h => wpAny_Call_Name_kw (ld_glob I hg hm (PySem.W.callWith_K (h₀ := X.base) I.ok.mod.kin hk (thn (ha.run pos pins s σ H _ I h) fun us s1 ⟨vs, H1, I1, r, q⟩ => ⟨I1.kIn, run_fnG F hr hb hd hx I1 r q⟩) he hpl) hdb)⟩
theorem pe_callG0 (F : FnG X.prog X.w X.K X.mg X.base CX k f fd ps sp) (hr : RoomG k X.A) (hg : Gl X x) (hm : X.mg x = some (.ref f)) (hk : PySem.W.keepIn X.K (.ref f) = true) (hb : L2.Binds X.K fd ps ds) (hd : Vals dvs ds) (hx : Passes CX X E) (hdb : (x == ("__debug__" : Str)) = false) :
    PE X (.Call (.Name x p) [] [] pos) (tCall sp dvs E tNil) :=
  ⟨fun pins s σ H Q I h => wpAny_Call_Name_kw (ld_glob I hg hm (PySem.W.callWith_K0 I.kIn hk (run_fnG (us := []) F hr hb hd hx I .nil h)) hdb)⟩
end
end PyI

set_option Elab.async false
set_option linter.all false
set_option maxRecDepth 100000
/-! PyI: errors as values, raise, lambdas. -/
namespace PyI
open PySem PySem.Spec L2
set_option autoImplicit false
def mErr (c : Nat) (m : List Sl → Out D) (env : List Sl) : Out EV := (m env).bind fun d e => .ok (.val (.exc c d)) e
def mRaise (c : Nat) (m : List Sl → Out D) (env : List Sl) : Out SF := (m env).bind fun d e => .exc c d e
section
variable {G : Glo} {W : WE} {X : Cx} {lk : List Nat}
theorem s_err {c : Nat} {C : Addr} {x : Str} {p pos : Pos} {e : Expr} {m : List Sl → Out D} (hC : G.cls c = some C) (h : ∀ te, PE X e te → PE X (.Call (.Name x p) [e] [] pos) (tMkE C te)) (he : PE X e (tD G W m)) : PE X (.Call (.Name x p) [e] [] pos) (tM G W (mErr c m)) :=
  (h _ he).weak fun σ H Q ⟨F, own, env, hs, E, q⟩ => ⟨F, own, env, hs, E, q.bind rEV_mono fun d e1 F1 H1 own1 v st1 E1 rr q1 a dd H2 k na nd ne ea ed => by
    have pr : Pure F1 H1 (upd (upd F1 dd (exd dd [("value", v)])) a (exo a C (some dd))) H2 := {
      fz := fun b o hb => by rw [upd_ne (ne_of_none hb (st1.sub.free na)), upd_ne (ne_of_none hb (st1.sub.free nd))]; exact hb
      sub := fun b o hb => by
        by_cases z : b = a
        · subst z; rw [upd_same] at hb; cases hb; exact ea
        · rw [upd_ne z] at hb
          by_cases z2 : b = dd
          · subst z2; rw [upd_same] at hb; cases hb; exact ed
          · rw [upd_ne z2] at hb; exact k _ _ (st1.sub _ _ hb)
      kp := k
      new := fun b o hb => by
        by_cases z : b = a
        · subst z; exact .inr (.inl na)
        · rw [upd_ne z] at hb
          by_cases z2 : b = dd
          · subst z2; exact .inr (.inl nd)
          · rw [upd_ne z2] at hb; exact .inl hb }
    refine q1 _ _ own1 _ (pr.step (G := G) (env := e1) (σ := σ)) (pr.er E1) ?_
    show Rep G _ (.exc c d) _
    unfold Rep
    exact ⟨a, dd, C, v, rfl, hC, upd_same, by rw [upd_ne ne, upd_same], Rep.mono pr.fz _ _ rr⟩⟩
theorem st_raise {c : Nat} {C : Addr} {x : Str} {p pos pos' : Pos} {e : Expr} {m : List Sl → Out D} (hC : G.cls c = some C) (hc : X.calm = true) (tk : TkW X G W) (h : ∀ te, PE X e te → L2.PMk X (.Call (.Name x p) [e] [] pos) (tMkR C te)) (he : PE X e (tD G W m)) : PS X (.Raise (some (.Call (.Name x p) [e] [] pos)) none pos') (tS G W lk (mRaise c m)) :=
  (ps_raise hc tk (h _ he)).weak fun D σ H ⟨F, own, env, hs, E, q⟩ => ⟨F, own, env, hs, E, ResS.bindE q fun d e1 F1 H1 own1 v st1 E1 rr q0 q1 dd H2 k nd ed => by
    have pr : Pure F1 H1 F1 H2 := ⟨Same.refl _, fun b o hb => k _ _ (st1.sub _ _ hb), k, fun b o hb => .inl hb⟩
    exact ⟨c, d, F1, e1, own1, ⟨C, dd, _, v, hC, rfl, rfl, ed, by simp [List.lookup], rr⟩, q1 F1 H2 own1 σ (pr.step (G := G) (env := e1) (σ := σ)) (pr.er E1) .refl⟩⟩
end

/-! ### lambdas that capture nothing -/
section
open LamX
variable {X : Cx} {pins : List (Addr × Obj)} {σ : L2.St} {H : Hp} {s : Shared}
theorem clo_none {cells : List (Str × Addr)} {names : List (Str × NameKind)} (h : ∀ y ∈ names, y.2 ≠ .free) : cloFrom cells names [] = [] := by
  cases e : cloFrom cells names [] with
  | nil => rfl
  | cons p l =>
    have hm : (p.1, p.2) ∈ cloFrom cells names [] := by rw [e]; exact List.mem_cons_self
    rcases cloFrom_mem hm with z | ⟨z, _⟩
    · cases z
    · exact absurd rfl (h _ z)
theorem lam_track {L : LF} {f c' : Addr} {H : Hp} {s : Shared} {pm ctv : Value} {t' : Nat} (I : Inv X pins σ H s) (hf : f = s.heap.objs.size) :
    Inv X pins σ (upd H f (LamO f L [] c')) { s with heap := s.heap.push (PySem.W.kla_obj "<lambda>" L.qual L.params L.body L.scope [] pm c' ctv), toks := t' } := by
  subst hf
  exact I.laid (fun b o q => Heap.get?_push_of_some _ q) (Nat.le_refl _) ⟨⟨pm, ctv, Heap.get?_push_at rfl rfl⟩, ⟨_, Heap.get?_push_at rfl rfl⟩, fun h1 h2 ⟨a, b, q⟩ st => ⟨a, b, st _ q⟩⟩
theorem lam_mk {T : List (Addr × Str)} {L : LF} {c P : Addr} {pos : Pos} {E : Value → Shared → Prop} {Q : Value → Shared → Prop} (I : Inv X pins σ H s) (TB : TabB X.base X.mg c P) (hcode : X.env.code = .ref c) (hq : L.qual = X.env.qual ++ "<lambda>")
    (hm : (P, L.qual) ∈ T) (hu : ∀ p ∈ T, p.1 = P → p.2 = L.qual) (hT : Tabs T H) (hdef : defaultsOf L.params X.env = ([], [])) (hfree : ∀ y ∈ L.scope.names, y.2 ≠ .free)
    (h : ∀ (f c' : Addr) (H1 : Hp) (s' : Shared), Inv X pins σ H1 s' → (∀ b o, H b = some o → b ≠ P → H1 b = some o) → (∃ ps, H1 P = some (.tbl ps)) → Tabs T H1 → H f = none → c' ≠ f → H1 f = some (LamO f L [] c') → H1 c' = some (CodeO c' L.qual) → Q (.ref f) s') :
    wpAny (model X.prog X.w) X.A (eval (.Lambda L.params L.body L.scope pos) X.env) Q E s := by
  obtain ⟨ps, hP, ht, ha⟩ := hT _ hm
  have hcl : closureFor L.scope X.env = pure [] := by
    rw [closure_ok fun y hy e => absurd e (hfree y hy), clo_none hfree]
  have bP : s.heap.BuiltinsAt X.mg P := TB.bm.keeps I.bk
  have hP' : s.heap.get? P = some { cls := .none, data := .fields ps } := I.hok P _ hP
  refine PySem.W.kla_eval hdef ?_
  rw [← hq]
  cases hc : codeAmong pos ps.toList with
  | some cv =>
    obtain ⟨c', e, hco⟩ := ha pos cv hc
    subst e
    refine PySem.W.kla_makeFunctionHit (mg := X.mg) (c := c) (P := P) (ps := ps) hcl I.ok.glob (I.mod.glob.keeps I.bk) hcode (TB.code.keeps I.bk) hP' ht hc bP fun ctv h' tk hx hsz => ?_
    have I1 : Inv X pins σ H { s with heap := h', toks := tk } := I.kept hx
    have nf := I1.hok.fresh (Nat.le_refl _)
    exact h _ c' _ _ (lam_track (L := L) (c' := c') (t' := tk) I1 rfl) (fun b o e _ => by rw [upd_ne (ne_of_none e nf)]; exact e) ⟨ps, by rw [upd_ne (ne_of_none hP nf)]; exact hP⟩ (hT.ext fun b o e => by rw [upd_ne (ne_of_none e nf)]; exact e) nf (ne_of_none hco nf) upd_same (by rw [upd_ne (ne_of_none hco nf)]; exact hco)
  | none =>
    refine PySem.W.kla_makeFunction (mg := X.mg) (c := c) (P := P) (ps := ps) hcl I.ok.glob (I.mod.glob.keeps I.bk) hcode (TB.code.keeps I.bk) hP' ht hc TB.gP bP fun c' ctv h' tk hx hge hlt hrec htb => ?_
    obtain ⟨c2, oc, vs, t, e2, hoc, hd, hv⟩ := hrec
    cases e2
    have nC : H c' = none := I.hok.fresh hge
    have I1 := inv_table (t' := tk) (more := #[rawInt pos.line, rawInt pos.col, .ref c']) (h' := h') I hP (fun b o hb e => hx b o hb e) htb hge ⟨oc, vs, t, hoc, hd, hv⟩
    have nf := I1.hok.fresh (Nat.le_refl _)
    have nfH : H h'.objs.size = none := I.hok.fresh (Nat.le_trans hge (Nat.le_of_lt hlt))
    have hE : ∀ b o, H b = some o → ¬ Tb o → upd (upd (upd H P (.tbl (ps ++ #[rawInt pos.line, rawInt pos.col, .ref c']))) c' (CodeO c' L.qual)) h'.objs.size (LamO h'.objs.size L [] c') b = some o := fun b o e n => by
      rw [upd_ne (ne_of_none e nfH), upd_ne (ne_of_none e nC), upd_ne (fun z => n ⟨ps, Option.some.inj (e.symm.trans (by rw [z]; exact hP))⟩)]
      exact e
    have nCo : ∀ (c : Addr) (q : Str), ¬ Tb (CodeO c q) := fun c q ⟨ps, z⟩ => codeO_ne ps z
    have atC : upd (upd (upd H P (.tbl (ps ++ #[rawInt pos.line, rawInt pos.col, .ref c']))) c' (CodeO c' L.qual)) h'.objs.size (LamO h'.objs.size L [] c') c' = some (CodeO c' L.qual) := by
      rw [upd_ne (Nat.ne_of_lt hlt), upd_same]
    have atP : upd (upd (upd H P (.tbl (ps ++ #[rawInt pos.line, rawInt pos.col, .ref c']))) c' (CodeO c' L.qual)) h'.objs.size (LamO h'.objs.size L [] c') P = some (.tbl (ps ++ #[rawInt pos.line, rawInt pos.col, .ref c'])) := by
      rw [upd_ne (ne_of_none hP nfH), upd_ne (ne_of_none hP nC), upd_same]
    have eL : (ps ++ #[rawInt pos.line, rawInt pos.col, .ref c']).toList = ps.toList ++ [rawInt pos.line, rawInt pos.col, .ref c'] := by simp
    refine h _ c' _ _ (lam_track (L := L) (c' := c') (t' := tk) I1 rfl) (fun b o e z => by rw [upd_ne (ne_of_none e nfH), upd_ne (ne_of_none e nC), upd_ne z]; exact e) ⟨_, atP⟩ (fun p hp => ?_) nfH (Nat.ne_of_lt hlt) upd_same atC
    · by_cases hb : p.1 = P
      · rw [hu p hp hb, hb]
        refine ⟨_, atP, by rw [eL]; exact PySem.TriplesOk_snoc _ _ _ _ ht, fun p' cv hcv => ?_⟩
        rw [eL] at hcv
        rcases among_app _ ht hcv with z | z
        · obtain ⟨c0, e1, e2⟩ := ha p' cv z
          exact ⟨c0, e1, hE _ _ e2 (nCo _ _)⟩
        · exact ⟨c', z, atC⟩
      · obtain ⟨ps', a1, a2, a3⟩ := hT p hp
        refine ⟨ps', by rw [upd_ne (ne_of_none a1 nfH), upd_ne (ne_of_none a1 nC), upd_ne hb]; exact a1, a2, fun p' cv hcv => ?_⟩
        obtain ⟨c0, e1, e2⟩ := a3 p' cv hcv
        exact ⟨c0, e1, hE _ _ e2 (nCo _ _)⟩
end

/-! ### a lambda as a value; called -/
def mClo (n : Nat) (env : List Sl) : Out EV := .ok (.val (.clo n [])) env
def mApp (lamF : Nat → List Sl → Out EV) (i : Nat) (ms : List Sl → Out (List Ar)) (env : List Sl) : Out EV :=
  match env[i]? with
  | some (.d (.clo n [])) => (ms env).bind fun xs e => callA (lamF n) xs e
  | _ => .bad
section
open LamX
variable {G : Glo} {W : WE} {X : Cx} {lk : List Nat}
theorem s_lam {n : Nat} {L : LF} {c P : Addr} {pos : Pos} (hL : G.lam n = some L) (TB : TabB X.base X.mg c P) (hcode : X.env.code = .ref c) (hq : L.qual = X.env.qual ++ "<lambda>") (hm : (P, L.qual) ∈ G.tabs) (hu : ∀ p ∈ G.tabs, p.1 = P → p.2 = L.qual)
    (hdef : defaultsOf L.params X.env = ([], [])) (hfree : ∀ y ∈ L.scope.names, y.2 ≠ .free) : PE X (.Lambda L.params L.body L.scope pos) (tM G W (mClo n)) := by
  refine ⟨fun pins s σ H Q I ⟨F, own, env, hs, E, q⟩ => ?_⟩
  refine lam_mk I TB hcode hq hm hu E.tab.1 hdef hfree fun f c' H1 s' I1 k kP t1 nf ne hf hc => ⟨.ref f, H1, I1, rfl, ?_⟩
  have fP : F P = none := E.tab.2 _ hm
  obtain ⟨ps0, hP0, _⟩ := E.tab.1 _ hm
  have hP0 : H P = some (.tbl ps0) := hP0
  have toH1 : ∀ b o, F b = some o → H1 b = some o := fun b o e => k b o (hs _ _ e) fun z => by rw [z, fP] at e; cases e
  have fz : Same F (upd (upd F c' (CodeO c' L.qual)) f (LamO f L [] c')) := fun b o e => by
    have h1 := toH1 b o e
    rw [upd_ne (ne_of_none (hs _ _ e) nf)]
    by_cases z : b = c'
    · subst z; rw [hc] at h1; rw [upd_same, h1]
    · rw [upd_ne z]; exact e
  have sub : Same (upd (upd F c' (CodeO c' L.qual)) f (LamO f L [] c')) H1 := fun b o e => by
    by_cases z : b = f
    · subst z; rw [upd_same] at e; cases e; exact hf
    · rw [upd_ne z] at e
      by_cases z2 : b = c'
      · subst z2; rw [upd_same] at e; cases e; exact hc
      · rw [upd_ne z2] at e; exact toH1 b o e
  have new : ∀ a o, upd (upd F c' (CodeO c' L.qual)) f (LamO f L [] c') a = some o → F a = some o ∨ Ex o := fun b o e => by
    by_cases z : b = f
    · subst z; rw [upd_same] at e; cases e; exact .inr ex_ext
    · rw [upd_ne z] at e
      by_cases z2 : b = c'
      · subst z2; rw [upd_same] at e; cases e; exact .inr ex_ext
      · rw [upd_ne z2] at e; exact .inl e
  have st : Step F H (Inn own) (upd (upd F c' (CodeO c' L.qual)) f (LamO f L [] c')) H1 (Inn own) := {
    fz := fz
    sub := sub
    fr := fun a o e _ => by
      by_cases z : a = P
      · subst z; rw [hP0] at e; cases e; exact .inr ⟨⟨_, rfl⟩, kP⟩
      · exact .inl (k a o e z)
    new := fun a o e => (new a o e).elim .inl fun z => .inr (.inr (.inr z))
    own := fun a z => .inl z }
  refine q _ H1 own _ st (E.keep fz (fun a ha o e => k a o e fun z => ?_) (fun a ha => ?_) ⟨t1, fun p hp => ?_⟩) ?_
  · subst z
    obtain ⟨u, hua, ow⟩ := E.there ha
    rw [hP0] at hua; cases hua
    exact ow.ntb ⟨_, rfl⟩
  · obtain ⟨u, hua, ow⟩ := E.there ha
    cases z : upd (upd F c' (CodeO c' L.qual)) f (LamO f L [] c') a with
    | none => rfl
    | some o =>
      rcases new _ _ z with y | y
      · obtain ⟨i, hi⟩ := ha
        rw [E.off i a hi] at y; cases y
      · have e1 := sub _ _ z
        rw [k a u hua fun w => by subst w; rw [hP0] at hua; cases hua; exact ow.ntb ⟨_, rfl⟩] at e1
        cases e1
        exact absurd y ow.nex
  · cases z : upd (upd F c' (CodeO c' L.qual)) f (LamO f L [] c') p.1 with
    | none => rfl
    | some o =>
      obtain ⟨ps, h1, _⟩ := t1 p hp
      rw [sub _ _ z] at h1; cases h1
      rcases new _ _ z with y | y
      · rw [E.tab.2 p hp] at y; cases y
      · exact absurd ⟨ps, rfl⟩ y.2
  · show Rep G _ (.clo n []) _
    unfold Rep
    exact ⟨rfl, f, c', L, rfl, hL, upd_same, by rw [upd_ne ne, upd_same]⟩
end

/-- a lambda's promise -/
structure LamOk (P : Program) (w : World) (K : PySem.W.Frag) (mg : Str → Option Value) (base : Heap) (CX : CXT) (k : Nat) (G : Glo) (L : LF) (np : Nat) (f : List Sl → Out EV) : Prop where
  bad : ∀ args : List Sl, args.length ≠ np → f args = .bad
  run : ∀ (A : Around) (outer : List Env) (s : Shared) (H : Hp) (us : List Value) (vs : List V) (Q : VK) (E : XK) (fA c' : Addr), RoomG k A → Env0 P w K mg base A outer s H → H fA = some (LamO fA L [] c') → H c' = some (LamX.CodeO c' L.qual) → Vals vs us → spF G np f vs H Q E →
    codeAny (model P w) A (.call (.ref fA) ⟨us, []⟩) (CR CX outer P w H s Q E) s
def LF.nf (L : LF) (c' : Addr) : NdefX.NF := ⟨"<lambda>", L.qual, L.params, [], L.scope, [], c'⟩
section
open LamX
variable {G : Glo} {W : WE} {X : Cx} {lk : List Nat} {P : Program} {w : World} {K : PySem.W.Frag} {mg : Str → Option Value} {base : Heap} {CX : CXT}
theorem tS_ret {m : List Sl → Out EV} {σ : L2.St} {H : Hp} {D : Ends} (h : tS G W lk (mRet m) D σ H) : tM G W m σ H D.rt := by
  obtain ⟨F, own, env, hs, E, q⟩ := h
  exact ⟨F, own, env, hs, E, ResS.bindE q fun r e1 F1 H1 own1 v st E1 rr q0 q1 => q0 F1 H1 own1 σ v st E1 .refl rr⟩
theorem lam_of {k : Nat} {L : LF} {N ps : List Str} {m : List Sl → Out EV} (S : NdefX.NScope N ps [] L.scope)
    (hb : ∀ (pm ctv : Value) (c' : Addr) (us : List Value), us.length = ps.length → bindArgs (PySem.W.kla_fn "<lambda>" L.qual L.params L.body L.scope [] pm (.ref c') ctv) ⟨us, []⟩ = pure (ps.zip us))
    (hbody : ∀ (A : Around) (outer : List Env) (s : Shared) (H : Hp) (E : XK) (f c' : Addr), RoomG k (A.deeper (NdefX.envF (L.nf c') f s.heap.objs.size)) → PE (NdefX.ncx CX P w K mg base N (L.nf c') f A outer s H E) L.body (tM G (wE G E) m)) :
    LamOk P w K mg base CX (k + 1) G L ps.length (runF N.length [] ps.length (mRet m)) := by
  refine ⟨fun args h => runF_bad args h, fun A outer s H us vs Q E fA c' hr e0 hf hc r hsp => ?_⟩
  have hl := spF_len hsp
  have lim : s.heap.NoLimit := e0.mod.nolimit.keeps fun b o e => (e0.bs b o e).1
  obtain ⟨⟨pm, ctv, ho⟩, _, _⟩ := e0.hok fA _ hf
  obtain ⟨⟨oc, wvs, t, hoc, hdc, hvc⟩, _, _⟩ := e0.hok c' _ hc
  have hN : ps.length ≤ N.length := by
    have q := congrArg List.length S.pre
    rw [List.length_take, List.length_append] at q
    simp at q
    omega
  refine PySem.W.kla_callFunE hr.r.depth ho rfl S.co S.gen rfl ⟨c', oc, wvs, t, rfl, hoc, hdc, hvc⟩ ?_
  rw [hb pm ctv c' us (by rw [← r.length]; exact hl)]
  refine wpAny_pure (wpAny_newFunctionEnv S.nocell (fun ⟨n, _⟩ hy => S.par n (List.of_mem_zip hy).1) (fun h₁ hns hsb => ⟨lim.fresh _ hsb, ?_⟩) S.kind)
  show codeAny _ _ (.expr L.body (NdefX.envF (L.nf c') fA s.heap.objs.size)) _ _
  have kp : ∀ b o, s.heap.get? b = some o → h₁.get? b = some o := fun b o e => hsb.extBut b o (Nat.ne_of_lt (Heap.lt_size e)) (Heap.get?_push_of_some _ e)
  have CA : NdefX.CellsAt (L.nf c').cl [] [] s.heap H := ⟨rfl, fun y c e => (by cases e), fun x y c e => (by cases e), fun i y e => (by cases e)⟩
  have I : Inv (NdefX.ncx CX P w K mg base N (L.nf c') fA A outer s H E) [] (NdefX.startF N vs []) H { s with heap := h₁, toks := s.toks + (ps.zip us).length } :=
    NdefX.inv_startN S hr.r.hd e0 hl r CA hns kp
  have es : NdefX.startF N vs [] = L2.start N vs := by
    unfold NdefX.startF L2.start
    simp
  rw [es] at I
  have ht := tS_ret (f_body hN hsp)
  refine PySem.W.kla_codeExpr (wpAny_mono ((hbody A outer s H E fA c' (hr.deeper _)).run [] _ _ H Q I ht) (fun v s' hq => ?_) fun e s' hq => hq)
  obtain ⟨w', H', J, rv, q⟩ := hq
  exact ⟨w', H', J.os, J.bare, J.base, J.hok, rv, q⟩
/-- a(..), a a slot that holds a lambda -/
theorem s_app {CX : CXT} {k i : Nat} {np : Nat → Nat} {lamF : Nat → List Sl → Out EV} {x : Str} {p1 pos : Pos} {e : Expr} {es : List Expr} {ms : List Sl → Out (List Ar)} (hl : ∀ n L, G.lam n = some L → LamOk X.prog X.w X.K X.mg X.base CX k G L (np n) (lamF n)) (hr : RoomG k X.A) (hx : Passes CX X (EW G W)) (hN : X.N[i]? = some x) (hv : Vis X.env.scope x)
    (hd : (x == ("__debug__" : Str)) = false) (hcd : (x == ("__classdict__" : Str)) = false) (h : PA X (e :: es) (tAr G W ms)) (he : starEach (e :: es) X.env = (false, eval e X.env) :: starEach es X.env) (hpl : (backTo pos (starEach es X.env)).any (·.1) = false) : PE X (.Call (.Name x p1) (e :: es) [] pos) (tM G W (mApp lamF i ms)) := by
  refine ⟨fun pins s σ H Q I ⟨F, own, env, hs, E, q⟩ => ?_⟩
  unfold mApp at q
  cases h0 : env[i]? with
  | none => rw [h0] at q; exact q.elim
  | some sl =>
    have R := E.rep i sl h0
    rw [h0] at q
    cases sl with
    | un => exact q.elim
    | own o => exact q.elim
    | d dd =>
      cases dd with
      | clo n cap =>
        cases cap with
        | cons _ _ => exact q.elim
        | nil =>
          obtain ⟨_, v0, hσ, hr0⟩ := R
          unfold Rep at hr0
          obtain ⟨_, f, c', L, rfl, hL, hf, hc⟩ := hr0
          have q : Res G W (rEV G σ) F H own σ ((ms env).bind fun xs e => callA (lamF n) xs e) Q := q
          have LO := hl n L hL
          have fnAt : ∀ {pins : List (Addr × Obj)} {H1 : Hp} {s1 : Shared}, Inv X pins σ H1 s1 → H1 f = some (LamO f L [] c') → PySem.W.FnAt f s1.heap := fun I1 h1 => by
            obtain ⟨⟨pm, ctv, ho⟩, _, _⟩ := I1.hok f _ h1
            exact ⟨_, _, _, _, ho⟩
          refine wpAny_Call_Name_kw (thn ((pe_var (pos := p1) (i := i) hN hv hd hcd).run pins s σ H (fun v H1 => v = .ref f ∧ H1 = H) I ⟨.ref f, hσ, rfl, rfl⟩) fun u s1 ⟨v, H1, I1, r1, ev, eH⟩ => ?_)
          subst ev eH
          obtain rfl : u = Value.ref f := r1
          have hA : tAr G W ms σ H1 fun vs H2 => H2 f = some (LamO f L [] c') ∧ H2 c' = some (LamX.CodeO c' L.qual) ∧ spF G (np n) (lamF n) vs H2 Q (EW G W) := ⟨F, own, env, hs, E, q.bind rEV_mono fun xs e1 F1 H2 own1 vs st E1 rx q1 => ⟨st.sub _ _ (st.fz _ _ hf), st.sub _ _ (st.fz _ _ hc), callA_rd LO.bad st.sub E1 rx q1⟩⟩
          refine PySem.W.callWith_F (first := []) (fnAt I1 (hs _ _ hf)) (thn (h.run pos pins s1 σ H1 _ I1 hA) fun us s2 ⟨vs, H2, I2, r, h1, h2, q2⟩ => ⟨fnAt I2 h1, ?_⟩) he hpl
          show wpAny _ _ (call (.ref f) us) _ _ _
          refine wpAny_call (codeAny_mono (LO.run X.A X.stack s2 H2 us vs Q (EW G W) f c' hr I2.env0 h1 h2 r q2) fun r s' hq => ?_)
          cases r with
          | error e => exact hx pins σ H2 s2 e s' I2 hq
          | ok fl =>
            cases fl with
            | ret u => exact I2.after hq
            | next => exact False.elim hq
            | brk => exact False.elim hq
            | cont => exact False.elim hq
      | _ => exact q.elim
end
end PyI

set_option Elab.async false
set_option linter.all false
set_option maxRecDepth 100000
/-! PyI: what one owns is changed: methods, stores. -/
namespace PyI
open PySem PySem.Spec L2
set_option autoImplicit false

/-! ### lists of representatives -/
section
variable {G : Glo} {F : Hp}
theorem RepL.snoc {xs : List D} {vs : List V} {x : D} {v : V} (h : RepL G F xs vs) (r : Rep G F x v) : RepL G F (xs ++ [x]) (vs ++ [v]) := h.append (.cons r .nil)
theorem RepL.set {x : D} {v : V} (r : Rep G F x v) : ∀ {xs : List D} {vs : List V} {i : Nat}, RepL G F xs vs → RepL G F (xs.set i x) (vs.set i v)
  | [], vs, i, h => by unfold RepL at h; subst h; exact .nil
  | y :: xs, vs, 0, h => by
    unfold RepL at h
    obtain ⟨u, t, rfl, h1, h2⟩ := h
    exact .cons r h2
  | y :: xs, vs, i + 1, h => by
    unfold RepL at h
    obtain ⟨u, t, rfl, h1, h2⟩ := h
    exact .cons h1 (RepL.set r h2)
theorem RepL.erase : ∀ {xs : List D} {vs : List V} {i : Nat}, RepL G F xs vs → RepL G F (xs.eraseIdx i) (vs.eraseIdx i)
  | [], vs, i, h => by unfold RepL at h; subst h; exact .nil
  | y :: xs, vs, 0, h => by
    unfold RepL at h
    obtain ⟨u, t, rfl, h1, h2⟩ := h
    exact h2
  | y :: xs, vs, i + 1, h => by
    unfold RepL at h
    obtain ⟨u, t, rfl, h1, h2⟩ := h
    exact .cons h1 (RepL.erase h2)
theorem RepL.dropLast : ∀ {xs : List D} {vs : List V}, RepL G F xs vs → RepL G F xs.dropLast vs.dropLast
  | [], vs, h => by unfold RepL at h; subst h; exact .nil
  | [x], vs, h => by
    unfold RepL at h
    obtain ⟨u, t, rfl, h1, h2⟩ := h
    unfold RepL at h2; subst h2
    exact .nil
  | x :: y :: xs, vs, h => by
    unfold RepL at h
    obtain ⟨u, t, rfl, h1, h2⟩ := h
    unfold RepL at h2
    obtain ⟨u2, t2, rfl, h3, h4⟩ := h2
    exact .cons h1 (RepL.dropLast (.cons h3 h4))
end

/-! ### the step -/
section
variable {G : Glo} {W : WE} {X : Cx} {F H : Hp} {env : List Sl} {σ : L2.St} {own : Nat → List Addr}
/-- the object at l, owned by the slot i alone, was changed -/
theorem mut_step {i : Nat} {o o' : Ob} {l : Addr} {u : HO} (E : ER G F H env σ own) (hs : Same F H) (hi : env[i]? = some (.own o)) (ho : own i = [l]) (r : ObRep G F (upd H l u) o' (.ref l) [l]) (hσ : σ[i]? = some (some (.ref l))) :
    Step F H (Inn own) F (upd H l u) (Inn (ow own i [l])) ∧ ER G F (upd H l u) (env.set i (.own o')) σ (ow own i [l]) := by
  have hl : Inn own l := ⟨i, by rw [ho]; simp⟩
  obtain ⟨w, hw, ow0⟩ := E.there hl
  have fl : F l = none := E.off i l (by rw [ho]; simp)
  have ne : ∀ {b : Addr} {o : HO}, F b = some o → b ≠ l := fun e z => by subst z; rw [fl] at e; cases e
  refine ⟨⟨Same.refl F, fun b o e => by rw [upd_ne (ne e)]; exact hs _ _ e, fun b o e n => .inl (by rw [upd_ne fun z => n (by rw [z]; exact hl)]; exact e), fun b o e => .inl e, fun b hb => ?_⟩, ?_⟩
  · rcases inn_ow hb with z | ⟨j, _, z⟩
    · have : b = l := by simpa using z
      subst this; exact .inl hl
    · exact .inl ⟨j, z⟩
  · refine E.put (List.getElem?_eq_some_iff.mp hi).1 (Same.refl F) rfl (fun _ _ => rfl) (fun j hj a ha o e => ?_) ⟨.ref l, hσ, r⟩ (by simp) (fun j hj a ha z => ?_) (fun j hj a ha => E.off j a ha) (fun a ha => ?_) (tabs_keep E.tab (fun b o e n => ?_) fun _ _ e => .inl e)
    · rw [upd_ne fun z => hj (E.sep j i a ha (by rw [ho, z]; simp))]; exact e
    · have : a = l := by simpa using ha
      subst this
      exact hj (E.sep j i a z (by rw [ho]; simp))
    · have : a = l := by simpa using ha
      subst this; exact fl
    · rw [upd_ne fun z => n (by subst z; rw [hw] at e; cases e; exact ow0)]; exact e
theorem own_lst {i : Nat} {xs : List D} (E : ER G F H env σ own) (hi : env[i]? = some (.own (.lst xs))) : ∃ l ys, σ[i]? = some (some (.ref l)) ∧ own i = [l] ∧ H l = some (.lst ys) ∧ RepL G F xs ys := by
  obtain ⟨v, h1, l, ys, rfl, h2, h3, h4⟩ := E.rep i _ hi
  exact ⟨l, ys, h1, h2, h3, h4⟩
theorem own_dct {i t : Nat} {kvs : List (D × D)} (E : ER G F H env σ own) (hi : env[i]? = some (.own (.dct t kvs))) : ∃ l ys, σ[i]? = some (some (.ref l)) ∧ own i = [l] ∧ DOw H l t (kvs.map (·.1)) ys ∧ RepL G F (kvs.map (·.2)) ys := by
  obtain ⟨v, h1, l, ys, rfl, h2, h3, h4⟩ := E.rep i _ hi
  exact ⟨l, ys, h1, h2, h3, h4⟩

/-! ### methods of lists -/
def argsOf (fz : Bool) (e : List Sl) (xs : List Ar) : Option (List D) := if fz then dats xs else looks e xs
def ArgP (fz : Bool) (G : Glo) (F H : Hp) (ds : List D) (vs : List V) : Prop := if fz then RepL G F ds vs else Views G F H ds vs
theorem argsOf_rep {fz : Bool} {xs : List Ar} {vs : List V} {ds : List D} (E : ER G F H env σ own) (hs : Same F H) (r : ArReps G F σ xs vs) (h : argsOf fz env xs = some ds) : ArgP fz G F H ds vs := by
  cases fz with
  | true => exact dats_rep r h
  | false => exact looks_views E hs r h
def mMutL (fz : Bool) (f : List D → List D → Option (D × List D)) (i : Nat) (ms : List Sl → Out (List Ar)) (env : List Sl) : Out EV :=
  match env[i]? with
  | some (.own (.lst _)) => (ms env).bind fun xs e => match e[i]? with
    | some (.own (.lst l)) => (ofOpt ((argsOf fz e xs).bind fun ds => f l ds) e).bind fun r e => .ok (.val r.1) (e.set i (.own (.lst r.2)))
    | _ => .bad
  | _ => .bad
def rMutL (fz : Bool) (G : Glo) (f : List D → List D → Option (D × List D)) : V → List V → Hp → VK → Prop := fun x vs H Q =>
  ∃ F l xs ys ds r, Same F H ∧ x = .ref l ∧ F l = none ∧ H l = some (.lst ys) ∧ RepL G F xs ys ∧ ArgP fz G F H ds vs ∧ f xs ds = some r ∧ ∀ v ys', Rep G F r.1 v → RepL G F r.2 ys' → Q v (upd H l (.lst ys'))
theorem mutL_rd {fz : Bool} {f : List D → List D → Option (D × List D)} {i : Nat} {ms : List Sl → Out (List Ar)} {H : Hp} {Q : VK} (h : tM G W (mMutL fz f i ms) σ H Q) : ∃ l, σ[i]? = some (some (.ref l)) ∧ (∃ ys, H l = some (.lst ys)) ∧ tAr G W ms σ H fun vs H1 => rMutL fz G f (.ref l) vs H1 Q := by
  obtain ⟨F, own, env, hs, E, q⟩ := h
  unfold mMutL at q
  split at q
  · rename_i xs0 hi0
    obtain ⟨l, ys, hσ, ho, hH, hr⟩ := own_lst E hi0
    refine ⟨l, hσ, ⟨ys, hH⟩, F, own, env, hs, E, q.bind rEV_mono fun xs e1 F1 H1 own1 vs st E1 rx q1 => ?_⟩
    split at q1
    · rename_i xs1 hi1
      obtain ⟨l1, ys1, hσ1, ho1, hH1, hr1⟩ := own_lst E1 hi1
      rw [hσ] at hσ1; cases hσ1
      cases hds : argsOf fz e1 xs with
      | none => rw [hds] at q1; exact q1.elim
      | some ds =>
        rw [hds, Option.bind_some] at q1
        cases hf : f xs1 ds with
        | none => rw [hf] at q1; exact q1.elim
        | some r =>
          rw [hf] at q1
          refine ⟨F1, l, xs1, ys1, ds, r, st.sub, rfl, E1.off i l (by rw [ho1]; simp), hH1, hr1, argsOf_rep E1 st.sub rx hds, hf, fun v ys' h1 h2 => ?_⟩
          have z := mut_step (o' := .lst r.2) (u := .lst ys') E1 st.sub hi1 ho1 ⟨l, ys', rfl, rfl, upd_same, h2⟩ hσ
          exact q1 F1 _ _ v z.1 z.2 h1
    · exact q1.elim
  · exact q.elim
theorem s_mutL {fz : Bool} {f : List D → List D → Option (D × List D)} {i : Nat} {x name : Str} {p apos cpos : Pos} {id : String} {e : Expr} {es : List Expr} {ms : List Sl → Out (List Ar)} (hK : G.K = X.K) (slot : Slot "list" name id) (hty : typeOf (.builtin id) = pure (.type "method_descriptor")) (hm : MtR X id (rMutL fz G f)) (hv : PE X (.Name x p) (tVar i)) (ha : PA X (e :: es) (tAr G W ms))
    (hbase : attributeBase (.Name x p) name X.env (eval (.Name x p) X.env) = eval (.Name x p) X.env)
    (hfew : ((backTo cpos (starEach (e :: es) X.env)).all (fun x => !x.1) && (backToKw cpos (keywordEach [] X.env)).all (fun x => x.1.isSome) && decide ((e :: es).length + ([] : List Keyword).length + (if ([] : List Keyword).isEmpty then 0 else 1) < 30)) = true)
    (hline : (apos.endLine == cpos.line) = true) (hs : starEach (e :: es) X.env = (false, eval e X.env) :: starEach es X.env) (hplain : (backTo cpos (starEach es X.env)).any (·.1) = false) : PE X (.Call (.Attribute (.Name x p) name apos) (e :: es) [] cpos) (tM G W (mMutL fz f i ms)) :=
  (pe_bm PySem.F.plainAttrs_list slot hty hm hv ha hbase hfew hline hs hplain).weak fun σ H Q h => by
    obtain ⟨l, hσ, ⟨ys, hH⟩, q⟩ := mutL_rd h
    exact ⟨.ref l, hσ, .inl ⟨rfl, ys, SqL.of hH⟩, q⟩
theorem s_mutL0 {fz : Bool} {f : List D → List D → Option (D × List D)} {i : Nat} {x name : Str} {p apos cpos : Pos} {id : String} (hK : G.K = X.K) (slot : Slot "list" name id) (hty : typeOf (.builtin id) = pure (.type "method_descriptor")) (hm : MtR X id (rMutL fz G f)) (hv : PE X (.Name x p) (tVar i))
    (hbase : attributeBase (.Name x p) name X.env (eval (.Name x p) X.env) = eval (.Name x p) X.env) (hline : (apos.endLine == cpos.line) = true) : PE X (.Call (.Attribute (.Name x p) name apos) [] [] cpos) (tM G W (mMutL fz f i aNil)) :=
  (pe_bm0 PySem.F.plainAttrs_list slot hty hm hv hbase hline).weak fun σ H Q h => by
    obtain ⟨l, hσ, ⟨ys, hH⟩, q⟩ := mutL_rd h
    obtain ⟨F, own, env, hs, E, q⟩ := q
    exact ⟨.ref l, hσ, .inl ⟨rfl, ys, SqL.of hH⟩, q F H own [] (Step.refl hs) E rfl⟩
def fAppend (xs : List D) : List D → Option (D × List D)
  | [d] => if xs.length < 16777216 then some (.non, xs ++ [d]) else none
  | _ => none
def fExtend (xs : List D) : List D → Option (D × List D)
  | [.lst zs] => if xs.length + zs.length ≤ 16777216 then some (.non, xs ++ zs) else none
  | _ => none
def fPop (xs : List D) : List D → Option (D × List D)
  | [] => (xs[xs.length - 1]?).map fun y => (y, xs.dropLast)
  | _ => none
def fPopAt (xs : List D) : List D → Option (D × List D)
  | [.int i] => if -9223372036854775808 ≤ i ∧ i < 9223372036854775808 then (seqIndex? i xs.length).bind fun k => (xs[k]?).map fun y => (y, xs.eraseIdx k) else none
  | _ => none
theorem mtm_toR {id : String} {r r' : V → List V → Hp → VK → Prop} (h : MtM X id r) (k : ∀ x vs H Q, r' x vs H Q → r x vs H Q) : MtR X id r' := fun pins s σ H x xs v us Q I rx rs q => h pins s σ H x xs v us Q I rx rs (k _ _ _ _ q)
theorem mu_append : MtR X "list.append" (rMutL true G fAppend) := mtm_toR mt_append fun x vs H Q ⟨F, l, xs, ys, ds, r, hs, hx, fl, hH, h1, h2, hf, k⟩ => by
  have h2 : RepL G F ds vs := h2
  match ds, hf, h2 with
  | [d], hf, h2 =>
    unfold RepL at h2
    obtain ⟨v, t, rfl, h3, h4⟩ := h2
    unfold RepL at h4; subst h4
    unfold fAppend at hf
    dsimp only at hf
    split at hf <;> cases hf
    rename_i hl
    exact ⟨l, ys, v, hx, rfl, hH, by rw [← h1.length, sizeLine_eq]; exact hl, k .non _ rfl (h1.snoc h3)⟩
theorem mu_extend : MtR X "list.extend" (rMutL false G fExtend) := mtm_toR mt_extend fun x vs H Q ⟨F, l, xs, ys, ds, r, hs, hx, fl, hH, h1, h2, hf, k⟩ => by
  have h2 : Views G F H ds vs := h2
  match ds, hf, h2 with
  | [.lst zs], hf, h2 =>
    unfold Views at h2
    obtain ⟨v, t, rfl, h3, h4⟩ := h2
    unfold Views at h4; subst h4
    unfold fExtend at hf
    dsimp only at hf
    split at hf <;> cases hf
    rename_i hl
    obtain ⟨b, ws, rfl, h5, h6⟩ := view_lst h3
    exact ⟨l, b, ys, ws, hx, rfl, hH, h5, by rw [← h1.length, ← h6.length, sizeLine_eq]; exact hl, k .non _ rfl (h1.append h6)⟩
theorem mu_pop : MtR X "list.pop" (rMutL true G fPop) := mtm_toR mt_pop fun x vs H Q ⟨F, l, xs, ys, ds, r, hs, hx, fl, hH, h1, h2, hf, k⟩ => by
  have h2 : RepL G F ds vs := h2
  match ds, hf, h2 with
  | [], hf, h2 =>
    unfold RepL at h2; subst h2
    unfold fPop at hf
    dsimp only at hf
    cases hg : xs[xs.length - 1]? with
    | none => rw [hg] at hf; cases hf
    | some y =>
      rw [hg] at hf; cases hf
      obtain ⟨v, h3, h4⟩ := h1.get hg
      exact ⟨l, ys, v, hx, rfl, hH, by rw [← h1.length]; exact h3, k v _ h4 h1.dropLast⟩
theorem mu_popAt : MtR X "list.pop" (rMutL true G fPopAt) := mtm_toR mt_popAt fun x vs H Q ⟨F, l, xs, ys, ds, r, hs, hx, fl, hH, h1, h2, hf, k⟩ => by
  have h2 : RepL G F ds vs := h2
  match ds, hf, h2 with
  | [.int i], hf, h2 =>
    unfold RepL at h2
    obtain ⟨w, t, rfl, h3, h4⟩ := h2
    unfold RepL at h4; subst h4
    unfold Rep at h3; subst h3
    unfold fPopAt at hf
    dsimp only at hf
    split at hf
    · rename_i hb
      cases hg : seqIndex? i xs.length with
      | none => rw [hg] at hf; cases hf
      | some j =>
        rw [hg, Option.bind_some] at hf
        cases hy : xs[j]? with
        | none => rw [hy] at hf; cases hf
        | some y =>
          rw [hy] at hf; cases hf
          obtain ⟨v, h5, h6⟩ := h1.get hy
          exact ⟨l, ys, i, j, v, hx, rfl, hH, hb.1, hb.2, by rw [← h1.length]; exact hg, h5, k v _ h6 h1.erase⟩
    · cases hf
end

/-! ### stores -/
def putKV (t : Nat) (kvs : List (D × D)) (k v : D) : List (D × D) :=
  if (kvs.any fun p => keq t p.1 k) = true then kvs.map (fun p => if keq t p.1 k = true then (p.1, v) else p) else kvs ++ [(k, v)]
def stOb : Ob → D → D → Option Ob
  | .lst xs, .int i, v => (ixN xs.length i).map fun j => .lst (xs.set j v)
  | .dct t kvs, k, v => if isKey t k = true ∧ kvs.length < 16777216 then some (.dct t (putKV t kvs k v)) else none
  | _, _, _ => none
def mStore (i : Nat) (mv : List Sl → Out D) (mk : List Sl → Out Ar) (env : List Sl) : Out SF := (mv env).bind fun d e1 => match e1[i]? with
  | some (.own _) => (mk e1).bind fun kx e2 => match e2[i]? with
    | some (.own o) => (ofOpt ((look e2 kx).bind fun k => stOb o k d) e2).bind fun o' e3 => .ok .next (e3.set i (.own o'))
    | _ => .bad
  | _ => .bad
section
variable {G : Glo} {W : WE} {X : Cx} {F H : Hp}
theorem put_gen {κ : Type} [DecidableEq κ] {kd : κ → D} {eq : D → D → Bool} (he : ∀ a b, eq (kd a) (kd b) = decide (a = b)) {k : κ} {v : V} {d : D} (hd : Rep G F d v) : ∀ {l : List (κ × V)} {kvs : List (D × D)}, kvs.map (·.1) = l.map (fun p => kd p.1) → RepL G F (kvs.map (·.2)) (l.map (·.2)) →
    (if (kvs.any fun p => eq p.1 (kd k)) = true then kvs.map (fun p => if eq p.1 (kd k) = true then (p.1, d) else p) else kvs ++ [(kd k, d)]).map (·.1) = (putK l k v).map (fun p => kd p.1) ∧
    RepL G F ((if (kvs.any fun p => eq p.1 (kd k)) = true then kvs.map (fun p => if eq p.1 (kd k) = true then (p.1, d) else p) else kvs ++ [(kd k, d)]).map (·.2)) ((putK l k v).map (·.2)) := by
  intro l kvs h1 h2
  have any : (kvs.any fun p => eq p.1 (kd k)) = (l.any fun p => decide (p.1 = k)) := by
    have e1 : (kvs.any fun p => eq p.1 (kd k)) = ((kvs.map (·.1)).any fun x => eq x (kd k)) := by rw [List.any_map]; rfl
    rw [e1, h1, List.any_map]
    congr 1
    funext p
    exact he _ _
  unfold putK
  rw [any]
  by_cases c : (l.any fun p => decide (p.1 = k)) = true
  · rw [if_pos c, if_pos c]
    clear any c
    induction l generalizing kvs with
    | nil =>
      cases kvs with
      | nil => exact ⟨rfl, .nil⟩
      | cons _ _ => cases h1
    | cons p l ih =>
      cases kvs with
      | nil => cases h1
      | cons q kvs =>
        simp only [List.map_cons, List.cons.injEq] at h1 h2 ⊢
        unfold RepL at h2
        obtain ⟨u, t, e, r1, r2⟩ := h2
        simp only [List.cons.injEq] at e
        obtain ⟨rfl, rfl⟩ := e
        obtain ⟨i1, i2⟩ := ih h1.2 r2
        have ec : eq q.1 (kd k) = decide (p.1 = k) := by rw [h1.1]; exact he _ _
        rw [ec]
        by_cases c : p.1 = k
        · simp only [c, decide_true, if_true]
          refine ⟨⟨?_, i1⟩, .cons hd i2⟩
          rw [h1.1, c]
        · simp only [c, decide_false, if_false, Bool.false_eq_true]
          exact ⟨⟨h1.1, i1⟩, .cons r1 i2⟩
  · rw [if_neg c, if_neg c, List.map_append, List.map_append, List.map_append, List.map_append, h1]
    exact ⟨rfl, h2.append (.cons hd .nil)⟩
theorem tkeyOf_D (ks : List Key) : tkeyOf (tkeyD ks) = some ks := keysOf_D ks
theorem stOb_lst {xs : List D} {k v : D} {o' : Ob} (h : stOb (.lst xs) k v = some o') : ∃ j j', k = .int j ∧ ixN xs.length j = some j' ∧ o' = .lst (xs.set j' v) := by
  cases k with
  | int j =>
    have h : (ixN xs.length j).map (fun j => Ob.lst (xs.set j v)) = some o' := h
    cases hj : ixN xs.length j with
    | none => rw [hj] at h; cases h
    | some j' => rw [hj] at h; cases h; exact ⟨j, j', rfl, hj, rfl⟩
  | _ => exact nomatch h
theorem keysOf_inj {a b : List Key} (h : tkeyD a = tkeyD b) : a = b := by
  have h1 := congrArg tkeyOf h
  rw [tkeyOf_D, tkeyOf_D] at h1
  exact Option.some.inj h1
theorem keq0 (a b : Key) : keq 0 (keyD a) (keyD b) = decide (a = b) := by
  unfold keq
  rw [if_pos rfl, keyOf_D, keyOf_D]
theorem keq1 (a b : List Key) : keq 1 (tkeyD a) (tkeyD b) = decide (a = b) := by
  unfold keq
  rw [if_neg (by decide), tkeyOf_D, tkeyOf_D]
def rSt : V → V → V → Hp → (Hp → Prop) → Prop := fun o i v H Q => rSetL o i v H Q ∨ rSetD o i v H Q
theorem set_any (hu : X.A.units + 1 < cLine) : PSet X rSt := fun pins s σ H o i v ov iv u Q I r1 r2 r3 q => q.elim (set_list pins s σ H o i v ov iv u Q I r1 r2 r3) (set_dict hu pins s σ H o i v ov iv u Q I r1 r2 r3)
theorem st_store {lk : List Nat} {i : Nat} {x : Str} {p p2 pos : Pos} {k e : Expr} {mv : List Sl → Out D} {mk : List Sl → Out Ar} (hu : X.A.units + 1 < cLine) (hv : PE X (.Name x p) (tVar i)) (he : PE X e (tD G W mv)) (hk : PE X k (tO G W mk)) (hs : swapsWithSole [.Subscript (.Name x p) k p2] e pos.line X.env = pure false) (hw : swappedStores [.Subscript (.Name x p) k p2] e X.env = pure none)
    (h1 : (assignEach [.Subscript (.Name x p) k p2] X.env).map (·.2) = [assign (.Subscript (.Name x p) k p2) X.env]) (hg : ∀ to ti, PE X (.Name x p) to → PE X k ti → PG X (.Subscript (.Name x p) k p2) (gSub to ti rSt)) : PS X (.Assign [.Subscript (.Name x p) k p2] e pos) (tS G W lk (mStore i mv mk)) :=
  (ps_asg he (hg _ _ hv hk) hs hw h1).weak fun D σ H ⟨F, own, env, hs, E, q⟩ => ⟨F, own, env, hs, E, ResS.bindE q fun d e1 F1 H1 own1 v st E1 rr q0 q1 => by
    split at q1
    · rename_i o0 hi0
      obtain ⟨v0, hσ, _⟩ := E1.rep i _ hi0
      refine ⟨v0, hσ, F1, own1, e1, st.sub, E1, ResS.bindE q1 fun kx e2 F2 H2 own2 vk st2 E2 rk q2 q3 => ?_⟩
      split at q3
      · rename_i o hi
        obtain ⟨v1, hσ1, hob⟩ := E2.rep i _ hi
        rw [hσ] at hσ1; cases hσ1
        cases hl : look e2 kx with
        | none => rw [hl] at q3; exact q3.elim
        | some kd =>
          rw [hl, Option.bind_some] at q3
          have vk2 := look_view E2 st2.sub rk hl
          have rd := Rep.mono st2.fz _ _ rr
          cases hst : stOb o kd d with
          | none => rw [hst] at q3; exact q3.elim
          | some o' =>
            rw [hst] at q3
            have fin : ∀ (l : Addr) (u : HO), v0 = .ref l → own2 i = [l] → ObRep G F2 (upd H2 l u) o' (.ref l) [l] → D.nx σ (upd H2 l u) := fun l u e1 ho r => by
              subst e1
              have z := mut_step E2 st2.sub hi ho r hσ
              exact q3 F2 _ _ σ z.1 z.2 .refl
            cases o with
            | mat rows => exact nomatch hst
            | lst xs =>
              obtain ⟨l, ys, rfl, ho, h4, h5⟩ := hob
              obtain ⟨j, j', rfl, hj, rfl⟩ := stOb_lst hst
              exact .inl ⟨l, ys, j, j', rfl, view_int vk2, h4, by rw [← h5.length]; exact hj, fin l _ rfl ho ⟨l, _, rfl, rfl, upd_same, h5.set rd⟩⟩
            | dct t kvs =>
              obtain ⟨l, ys, rfl, ho, h4, h5⟩ := hob
              have hst : (if isKey t kd = true ∧ kvs.length < 16777216 then some (Ob.dct t (putKV t kvs kd d)) else none) = some o' := hst
              split at hst
              · rename_i hk
                cases hst
                obtain ⟨hk, hlen⟩ := hk
                unfold putKV at fin
                rcases h4 with ⟨rfl, l0, h6, h7, h8⟩ | ⟨rfl, l0, h6, h7, h8⟩
                · unfold isKey at hk
                  rw [if_pos rfl] at hk
                  obtain ⟨k0, hk⟩ := Option.isSome_iff_exists.mp hk
                  have e := keyOf_some hk
                  subst e
                  have ey : vk = kV k0 := by
                    cases k0 with
                    | inl i => exact view_int vk2
                    | inr z => exact view_str vk2
                  rw [h8] at h5
                  obtain ⟨z1, z2⟩ := put_gen (kd := keyD) (eq := keq 0) keq0 (k := k0) rd h7 h5
                  have len : l0.length = kvs.length := by have := congrArg List.length h7; simp at this; omega
                  exact .inr ⟨l, _, rfl, .inl ⟨l0, k0, h6, ey, by rw [sizeLine_eq, len]; exact hlen, rfl⟩, fin l _ rfl ho ⟨l, _, rfl, rfl, .inl ⟨rfl, _, upd_same, z1, rfl⟩, z2⟩⟩
                · unfold isKey at hk
                  rw [if_neg (by decide)] at hk
                  obtain ⟨k0, hk⟩ := Option.isSome_iff_exists.mp hk
                  have e := tkeyOf_some hk
                  subst e
                  obtain ⟨b, ws, rfl, h9, h10⟩ := view_tup vk2
                  have ews := repL_keys h10
                  subst ews
                  rw [h8] at h5
                  obtain ⟨z1, z2⟩ := put_gen (kd := tkeyD) (eq := keq 1) keq1 (k := k0) rd h7 h5
                  have len : l0.length = kvs.length := by have := congrArg List.length h7; simp at this; omega
                  exact .inr ⟨l, _, rfl, .inr ⟨l0, k0, b, h6, rfl, st2.sub _ _ h9, by rw [sizeLine_eq, len]; exact hlen, rfl⟩, fin l _ rfl ho ⟨l, _, rfl, rfl, .inr ⟨rfl, _, upd_same, z1, rfl⟩, z2⟩⟩
              · cases hst
      · exact q3.elim
    · exact q1.elim⟩
end
end PyI

set_option Elab.async false
set_option linter.all false
set_option maxRecDepth 100000
/-! PyI: truths, built-in functions. -/
namespace PyI
open PySem PySem.Spec L2
set_option autoImplicit false
def mIfE (c : List Sl → Out Bool) (m1 m2 : List Sl → Out EV) (env : List Sl) : Out EV := (c env).bind fun b e => if b = true then m1 e else m2 e
def bIf (c : List Sl → Out Bool) (m1 m2 : List Sl → Out Bool) (env : List Sl) : Out Bool := (c env).bind fun b e => if b = true then m1 e else m2 e
def bC (b : Bool) (env : List Sl) : Out Bool := .ok b env
abbrev bAnd (c m : List Sl → Out Bool) := bIf c m (bC false)
abbrev bOr (c m : List Sl → Out Bool) := bIf c (bC true) m
def bNot (c : List Sl → Out Bool) (env : List Sl) : Out Bool := (c env).bind fun b e => .ok (!b) e
def mBool (c : List Sl → Out Bool) (env : List Sl) : Out EV := (c env).bind fun b e => .ok (.val (.bl b)) e
section
variable {G : Glo} {W : WE} {X : Cx} {a b c : Expr} {rest : List Expr} {pos : Pos}
theorem s_ife {mc : List Sl → Out Bool} {m1 m2 : List Sl → Out EV} (hc : PT X c (tTs G W mc)) (ha : PE X a (tM G W m1)) (hb : PE X b (tM G W m2)) : PE X (.IfExp c a b pos) (tM G W (mIfE mc m1 m2)) :=
  (pe_ifExp hc ha hb).weak fun σ H Q ⟨F, own, env, hs, E, q⟩ => ⟨F, own, env, hs, E, q.bind rEV_mono fun k e1 F1 H1 own1 v st E1 rr q1 => by
    have rr : k = v := rr
    subst rr
    cases k with
    | true => exact ⟨F1, own1, e1, st.sub, E1, q1⟩
    | false => exact ⟨F1, own1, e1, st.sub, E1, q1⟩⟩
theorem bif_of {mc m1 m2 : List Sl → Out Bool} {σ : L2.St} {H : Hp} {Q : Bool → Hp → Prop} (h : tTs G W (bIf mc m1 m2) σ H Q) : tTs G W mc σ H fun k H1 => if k = true then tTs G W m1 σ H1 Q else tTs G W m2 σ H1 Q := by
  obtain ⟨F, own, env, hs, E, q⟩ := h
  refine ⟨F, own, env, hs, E, q.bind rT_mono fun k e1 F1 H1 own1 v st E1 rr q1 => ?_⟩
  have rr : k = v := rr
  subst rr
  cases k with
  | true => exact ⟨F1, own1, e1, st.sub, E1, q1⟩
  | false => exact ⟨F1, own1, e1, st.sub, E1, q1⟩
theorem bc_of {k : Bool} {σ : L2.St} {H : Hp} {Q : Bool → Hp → Prop} (h : tTs G W (bC k) σ H Q) : Q k H := by
  obtain ⟨F, own, env, hs, E, q⟩ := h
  exact rd_ok hs E q rfl
theorem w_and1 {m : List Sl → Out Bool} (h : PT X a (tTs G W m)) : PW X (.BoolOp .And [a] pos) (tTs G W m) := pw_and1 h
theorem w_or1 {m : List Sl → Out Bool} (h : PT X a (tTs G W m)) : PW X (.BoolOp .Or [a] pos) (tTs G W m) := pw_or1 h
theorem w_and {ma mb : List Sl → Out Bool} (ha : PT X a (tTs G W ma)) (hb : PW X (.BoolOp .And (b :: rest) pos) (tTs G W mb)) : PW X (.BoolOp .And (a :: b :: rest) pos) (tTs G W (bAnd ma mb)) :=
  (pw_and ha hb).weak fun σ H Q h => by
    have z := bif_of h
    obtain ⟨F, own, env, hs, E, q⟩ := z
    refine ⟨F, own, env, hs, E, ?_⟩
    cases hm : ma env with
    | bad => rw [hm] at q; exact q
    | exc c d e => rw [hm] at q; exact q
    | ok k e1 =>
      rw [hm] at q
      intro F' H' own' v st E' rr
      have z := q F' H' own' v st E' rr
      cases v with
      | true => exact z
      | false => exact bc_of z
theorem w_or {ma mb : List Sl → Out Bool} (ha : PT X a (tTs G W ma)) (hb : PW X (.BoolOp .Or (b :: rest) pos) (tTs G W mb)) : PW X (.BoolOp .Or (a :: b :: rest) pos) (tTs G W (bOr ma mb)) :=
  (pw_or ha hb).weak fun σ H Q h => by
    have z := bif_of h
    obtain ⟨F, own, env, hs, E, q⟩ := z
    refine ⟨F, own, env, hs, E, ?_⟩
    cases hm : ma env with
    | bad => rw [hm] at q; exact q
    | exc c d e => rw [hm] at q; exact q
    | ok k e1 =>
      rw [hm] at q
      intro F' H' own' v st E' rr
      have z := q F' H' own' v st E' rr
      cases v with
      | true => exact bc_of z
      | false => exact z
theorem p_w {e : Expr} {m : List Sl → Out Bool} (h : PW X e (tTs G W m)) : PT X e (tTs G W m) := h.pt
theorem p_not {m : List Sl → Out Bool} (h : PT X a (tTs G W m)) : PT X (.UnaryOp .Not a pos) (tTs G W (bNot m)) :=
  (pt_not h).weak fun σ H Q ⟨F, own, env, hs, E, q⟩ => ⟨F, own, env, hs, E, q.bind rT_mono fun k e1 F1 H1 own1 v st E1 rr q1 => by
    have rr : k = v := rr
    subst rr
    exact rd_ok st.sub E1 q1 rfl⟩
/-! as values: of truths -/
def vAnd (ma mb : List Sl → Out EV) (env : List Sl) : Out EV := (ma env).bind fun r e => match r with
  | .val (.bl k) => if k = true then mb e else .ok (.val (.bl false)) e
  | _ => .bad
def vOr (ma mb : List Sl → Out EV) (env : List Sl) : Out EV := (ma env).bind fun r e => match r with
  | .val (.bl k) => if k = true then .ok (.val (.bl true)) e else mb e
  | _ => .bad
def vNot (ma : List Sl → Out EV) (env : List Sl) : Out EV := (ma env).bind fun r e => match r with
  | .val (.bl k) => .ok (.val (.bl (!k))) e
  | _ => .bad
theorem v_one {op : BoolOp} {m : List Sl → Out EV} (h : PE X a (tM G W m)) : PE X (.BoolOp op [a] pos) (tM G W m) := pe_one h
theorem v_and {ma mb : List Sl → Out EV} (ha : PE X a (tM G W ma)) (hb : PE X (.BoolOp .And (b :: rest) pos) (tM G W mb)) : PE X (.BoolOp .And (a :: b :: rest) pos) (tM G W (vAnd ma mb)) :=
  (pe_and ha hb).weak fun σ H Q ⟨F, own, env, hs, E, q⟩ => ⟨F, own, env, hs, E, q.bind rEV_mono fun r e1 F1 H1 own1 v st E1 rr q1 => by
    cases r with
    | new o => exact q1.elim
    | val d =>
      cases d with
      | bl k =>
        have rr : v = .bl k := rr
        subst rr
        refine ⟨k, rfl, ?_⟩
        cases k with
        | true => exact ⟨F1, own1, e1, st.sub, E1, q1⟩
        | false => exact rd_ok (v := V.bl false) st.sub E1 q1 rfl
      | _ => exact q1.elim⟩
theorem v_or {ma mb : List Sl → Out EV} (ha : PE X a (tM G W ma)) (hb : PE X (.BoolOp .Or (b :: rest) pos) (tM G W mb)) : PE X (.BoolOp .Or (a :: b :: rest) pos) (tM G W (vOr ma mb)) :=
  (pe_or ha hb).weak fun σ H Q ⟨F, own, env, hs, E, q⟩ => ⟨F, own, env, hs, E, q.bind rEV_mono fun r e1 F1 H1 own1 v st E1 rr q1 => by
    cases r with
    | new o => exact q1.elim
    | val d =>
      cases d with
      | bl k =>
        have rr : v = .bl k := rr
        subst rr
        refine ⟨k, rfl, ?_⟩
        cases k with
        | false => exact ⟨F1, own1, e1, st.sub, E1, q1⟩
        | true => exact rd_ok (v := V.bl true) st.sub E1 q1 rfl
      | _ => exact q1.elim⟩
theorem v_not {ma : List Sl → Out EV} (ha : PE X a (tM G W ma)) : PE X (.UnaryOp .Not a pos) (tM G W (vNot ma)) :=
  (pe_not ha).weak fun σ H Q ⟨F, own, env, hs, E, q⟩ => ⟨F, own, env, hs, E, q.bind rEV_mono fun r e1 F1 H1 own1 v st E1 rr q1 => by
    cases r with
    | new o => exact q1.elim
    | val d =>
      cases d with
      | bl k =>
        have rr : v = .bl k := rr
        subst rr
        exact ⟨k, rfl, rd_ok (v := V.bl (!k)) st.sub E1 q1 rfl⟩
      | _ => exact q1.elim⟩
end

/-! ### built-in functions -/
def lenD : List D → Option EV
  | [.tup xs] => some (.val (.int xs.length))
  | [.lst xs] => some (.val (.int xs.length))
  | [.scr ns] => some (.val (.int ns.length))
  | [.str z] => if z.length ≤ 16777216 then some (.val (.int z.length)) else none
  | _ => none
def intD : List D → Option EV
  | [.int i] => some (.val (.int i))
  | [.bl b] => some (.val (.int (if b then 1 else 0)))
  | _ => none
def absD : List D → Option EV
  | [.int i] => some (.val (.int (if i < 0 then -i else i)))
  | _ => none
def min2D : List D → Option EV
  | [.int i, .int j] => some (.val (.int (if j < i then j else i)))
  | _ => none
def max2D : List D → Option EV
  | [.int i, .int j] => some (.val (.int (if j > i then j else i)))
  | _ => none
def intsD : List D → Option (List Int)
  | [] => some []
  | .int i :: xs => (intsD xs).map fun r => i :: r
  | _ => none
def bls : List D → Option (List Bool)
  | [] => some []
  | .bl i :: xs => (bls xs).map fun r => i :: r
  | _ => none
def sumD : List D → Option EV
  | [.lst xs] => (intsD xs).map fun ns => .val (.int ns.sum)
  | [.scr ns] => some (.val (.int ns.sum))
  | _ => none
def anyD : List D → Option EV
  | [.lst xs] => (bls xs).map fun ns => .val (.bl (ns.any id))
  | _ => none
def allD : List D → Option EV
  | [.lst xs] => (bls xs).map fun ns => .val (.bl (ns.all id))
  | _ => none
def listD : List D → Option EV
  | [.lst xs] => some (.new (.lst xs))
  | [.tup xs] => some (.new (.lst xs))
  | [.scr ns] => some (.new (.lst (ns.map .int)))
  | _ => none
def tupleD : List D → Option EV
  | [.lst xs] => some (.val (.tup xs))
  | [.tup xs] => some (.val (.tup xs))
  | _ => none
section
variable {G : Glo} {W : WE} {X : Cx} {F H : Hp}
theorem views1 {d : D} {vs : List V} (h : Views G F H [d] vs) : ∃ v, vs = [v] ∧ View G F H d v := by
  unfold Views at h
  obtain ⟨v, t, rfl, h1, h2⟩ := h
  unfold Views at h2; subst h2
  exact ⟨v, rfl, h1⟩
theorem views2 {d e : D} {vs : List V} (h : Views G F H [d, e] vs) : ∃ v w, vs = [v, w] ∧ View G F H d v ∧ View G F H e w := by
  unfold Views at h
  obtain ⟨v, t, rfl, h1, h2⟩ := h
  obtain ⟨w, rfl, h3⟩ := views1 h2
  exact ⟨v, w, rfl, h1, h3⟩
theorem ints_rep : ∀ {xs : List D} {vs : List V} {ns : List Int}, RepL G F xs vs → intsD xs = some ns → vs = ns.map V.int
  | [], vs, ns, r, h => by unfold intsD at h; cases h; unfold RepL at r; exact r
  | x :: xs, vs, ns, r, h => by
    unfold RepL at r
    obtain ⟨v, t, rfl, r1, r2⟩ := r
    cases x with
    | int i =>
      unfold intsD at h
      cases hx : intsD xs with
      | none => rw [hx] at h; cases h
      | some q => rw [hx] at h; cases h; unfold Rep at r1; rw [r1, ints_rep r2 hx]; rfl
    | _ => unfold intsD at h; cases h
theorem bls_rep : ∀ {xs : List D} {vs : List V} {ns : List Bool}, RepL G F xs vs → bls xs = some ns → vs = ns.map V.bl
  | [], vs, ns, r, h => by unfold bls at h; cases h; unfold RepL at r; exact r
  | x :: xs, vs, ns, r, h => by
    unfold RepL at r
    obtain ⟨v, t, rfl, r1, r2⟩ := r
    cases x with
    | bl i =>
      unfold bls at h
      cases hx : bls xs with
      | none => rw [hx] at h; cases h
      | some q => rw [hx] at h; cases h; unfold Rep at r1; rw [r1, bls_rep r2 hx]; rfl
    | _ => unfold bls at h; cases h
theorem CallR.imp {f : Value} {r r' : List V → Hp → VK → Prop} (h : CallR X f r) (k : ∀ xs H Q, r' xs H Q → r xs H Q) : CallR X f r' := fun pins s σ H xs us Q I rs q => h pins s σ H xs us Q I rs (k _ _ _ q)
theorem c_len (hK : G.K = X.K) : CallR X (.builtin "len") (rPN G lenD) := CallR.imp call_len fun vs H Q ⟨F, ds, r, hs, vw, hf, pq⟩ => by
  match ds, hf, vw with
  | [.tup xs], hf, vw =>
    cases hf
    obtain ⟨v, rfl, h1⟩ := views1 vw
    obtain ⟨a, ws, rfl, h2, h3⟩ := view_tup h1
    exact ⟨.ref a, ws.length, rfl, .inr ⟨ws, SqT.of (hs _ _ h2), rfl⟩, by rw [← h3.length]; exact pq F H _ (Pure.refl hs) rfl⟩
  | [.lst xs], hf, vw =>
    cases hf
    obtain ⟨v, rfl, h1⟩ := views1 vw
    obtain ⟨a, ws, rfl, h2, h3⟩ := view_lst h1
    exact ⟨.ref a, ws.length, rfl, .inl ⟨ws, SqL.of h2, rfl⟩, by rw [← h3.length]; exact pq F H _ (Pure.refl hs) rfl⟩
  | [.scr ns], hf, vw =>
    cases hf
    obtain ⟨v, rfl, h1⟩ := views1 vw
    obtain ⟨a, rfl, h2⟩ := view_scr h1
    exact ⟨.ref a, ns.length, rfl, .inl ⟨_, by rw [← hK]; exact h2, by rw [List.length_map]⟩, pq F H _ (Pure.refl hs) rfl⟩
  | [.str z], hf, vw =>
    have hf : (if z.length ≤ 16777216 then some (EV.val (.int z.length)) else none) = some r := hf
    by_cases hz : z.length ≤ 16777216
    case neg => rw [if_neg hz] at hf; cases hf
    rw [if_pos hz] at hf; cases hf
    obtain ⟨v, rfl, h1⟩ := views1 vw
    have e := view_str h1
    subst e
    exact ⟨.str z, z.length, rfl, ⟨by rw [sizeLine_eq]; exact hz, rfl⟩, pq F H _ (Pure.refl hs) rfl⟩
theorem c_int : CallR X (.type "int") (rPN G intD) := CallR.imp call_int1 fun vs H Q ⟨F, ds, r, hs, vw, hf, pq⟩ => by
  match ds, hf, vw with
  | [.int i], hf, vw =>
    cases hf
    obtain ⟨v, rfl, h1⟩ := views1 vw
    exact .inl ⟨i, by rw [view_int h1], pq F H _ (Pure.refl hs) rfl⟩
  | [.bl i], hf, vw =>
    cases hf
    obtain ⟨v, rfl, h1⟩ := views1 vw
    exact .inr ⟨i, by rw [view_bl h1], pq F H _ (Pure.refl hs) rfl⟩
theorem c_abs : CallR X (.builtin "abs") (rPN G absD) := CallR.imp call_abs fun vs H Q ⟨F, ds, r, hs, vw, hf, pq⟩ => by
  match ds, hf, vw with
  | [.int i], hf, vw =>
    cases hf
    obtain ⟨v, rfl, h1⟩ := views1 vw
    exact ⟨i, by rw [view_int h1], pq F H _ (Pure.refl hs) rfl⟩
theorem c_min2 (hc : X.calm = true) : CallR X (.builtin "min") (rPN G min2D) := CallR.imp (call_min2 hc) fun vs H Q ⟨F, ds, r, hs, vw, hf, pq⟩ => by
  match ds, hf, vw with
  | [.int i, .int j], hf, vw =>
    cases hf
    obtain ⟨v, w, rfl, h1, h2⟩ := views2 vw
    exact ⟨i, j, by rw [view_int h1, view_int h2], pq F H _ (Pure.refl hs) rfl⟩
theorem c_max2 (hc : X.calm = true) : CallR X (.builtin "max") (rPN G max2D) := CallR.imp (call_max2 hc) fun vs H Q ⟨F, ds, r, hs, vw, hf, pq⟩ => by
  match ds, hf, vw with
  | [.int i, .int j], hf, vw =>
    cases hf
    obtain ⟨v, w, rfl, h1, h2⟩ := views2 vw
    exact ⟨i, j, by rw [view_int h1, view_int h2], pq F H _ (Pure.refl hs) rfl⟩
theorem c_sum (hK : G.K = X.K) (hc : X.calm = true) : CallR X (.builtin "sum") (rPN G sumD) := CallR.imp (cr_sum hc) fun vs H Q ⟨F, ds, r, hs, vw, hf, pq⟩ => by
  match ds, hf, vw with
  | [.lst xs], hf, vw =>
    have hf : (intsD xs).map (fun ns => EV.val (.int ns.sum)) = some r := hf
    cases hx : intsD xs with
    | none => rw [hx] at hf; cases hf
    | some ns =>
      rw [hx] at hf; cases hf
      obtain ⟨v, rfl, h1⟩ := views1 vw
      obtain ⟨a, ws, rfl, h2, h3⟩ := view_lst h1
      rw [ints_rep h3 hx] at h2
      exact ⟨a, ns, rfl, SqL.of h2, pq F H _ (Pure.refl hs) rfl⟩
  | [.scr ns], hf, vw =>
    cases hf
    obtain ⟨v, rfl, h1⟩ := views1 vw
    obtain ⟨a, rfl, h2⟩ := view_scr h1
    exact ⟨a, ns, rfl, by rw [← hK]; exact h2, pq F H _ (Pure.refl hs) rfl⟩
theorem c_any (hc : X.calm = true) : CallR X (.builtin "any") (rPN G anyD) := CallR.imp (cr_any hc) fun vs H Q ⟨F, ds, r, hs, vw, hf, pq⟩ => by
  match ds, hf, vw with
  | [.lst xs], hf, vw =>
    have hf : (bls xs).map (fun ns => EV.val (.bl (ns.any id))) = some r := hf
    cases hx : bls xs with
    | none => rw [hx] at hf; cases hf
    | some ns =>
      rw [hx] at hf; cases hf
      obtain ⟨v, rfl, h1⟩ := views1 vw
      obtain ⟨a, ws, rfl, h2, h3⟩ := view_lst h1
      rw [bls_rep h3 hx] at h2
      exact ⟨a, ns, rfl, SqL.of h2, pq F H _ (Pure.refl hs) rfl⟩
theorem c_all (hc : X.calm = true) : CallR X (.builtin "all") (rPN G allD) := CallR.imp (cr_all hc) fun vs H Q ⟨F, ds, r, hs, vw, hf, pq⟩ => by
  match ds, hf, vw with
  | [.lst xs], hf, vw =>
    have hf : (bls xs).map (fun ns => EV.val (.bl (ns.all id))) = some r := hf
    cases hx : bls xs with
    | none => rw [hx] at hf; cases hf
    | some ns =>
      rw [hx] at hf; cases hf
      obtain ⟨v, rfl, h1⟩ := views1 vw
      obtain ⟨a, ws, rfl, h2, h3⟩ := view_lst h1
      rw [bls_rep h3 hx] at h2
      exact ⟨a, ns, rfl, SqL.of h2, pq F H _ (Pure.refl hs) rfl⟩
theorem c_list (hK : G.K = X.K) : CallR X (.type "list") (rPN G listD) := CallR.imp call_list_of fun vs H Q ⟨F, ds, r, hs, vw, hf, pq⟩ => by
  match ds, hf, vw with
  | [.lst xs], hf, vw =>
    cases hf
    obtain ⟨v, rfl, h1⟩ := views1 vw
    obtain ⟨a, ws, rfl, h2, h3⟩ := view_lst h1
    exact ⟨a, ws, rfl, .inl (SqL.of h2), pq_lst hs h3 pq⟩
  | [.tup xs], hf, vw =>
    cases hf
    obtain ⟨v, rfl, h1⟩ := views1 vw
    obtain ⟨a, ws, rfl, h2, h3⟩ := view_tup h1
    exact ⟨a, ws, rfl, .inr (SqT.of (hs _ _ h2)), pq_lst hs h3 pq⟩
  | [.scr ns], hf, vw =>
    cases hf
    obtain ⟨v, rfl, h1⟩ := views1 vw
    obtain ⟨a, rfl, h2⟩ := view_scr h1
    refine ⟨a, _, rfl, .inl (by rw [← hK]; exact h2), pq_lst hs ?_ pq⟩
    have gen : ∀ l : List Int, RepL G F (l.map .int) (l.map V.int) := fun l => by
      induction l with
      | nil => exact .nil
      | cons a l ih => exact .cons rep_int ih
    exact gen _
theorem c_tuple : CallR X (.type "tuple") (rPN G tupleD) := CallR.imp call_tuple_of fun vs H Q ⟨F, ds, r, hs, vw, hf, pq⟩ => by
  match ds, hf, vw with
  | [.lst xs], hf, vw =>
    cases hf
    obtain ⟨v, rfl, h1⟩ := views1 vw
    obtain ⟨a, ws, rfl, h2, h3⟩ := view_lst h1
    exact ⟨a, ws, rfl, .inl ⟨SqL.of h2, pq_tup hs h3 pq⟩⟩
  | [.tup xs], hf, vw =>
    cases hf
    obtain ⟨v, rfl, h1⟩ := views1 vw
    obtain ⟨a, ws, rfl, h2, h3⟩ := view_tup h1
    exact ⟨a, ws, rfl, .inr ⟨SqT.of (hs _ _ h2), pq_rep hs (by unfold Rep; exact ⟨a, ws, rfl, h2, h3⟩) pq⟩⟩
/-- T(e, ..), T a built-in type -/
theorem s_callT {x : Str} {p pos : Pos} {e : Expr} {es : List Expr} {T : String} {f : List D → Option EV} {ms : List Sl → Out (List Ar)} (h : PA X (e :: es) (tAr G W ms)) (hr : ∀ t, PA X (e :: es) t → PE X (.Call (.Name x p) (e :: es) [] pos) (tCB (rPN G f) t)) : PE X (.Call (.Name x p) (e :: es) [] pos) (tM G W (mN f ms)) :=
  (hr _ h).weak fun σ H Q ⟨F, own, env, hs, E, q⟩ => ⟨F, own, env, hs, E, q.bind rEV_mono fun xs e1 F1 H1 own1 vs st1 E1 rx q1 => finN_res st1.sub E1 rx q1⟩
end
end PyI

set_option Elab.async false
set_option linter.all false
set_option maxRecDepth 100000
/-! PyI: what a for walks. -/
namespace PyI
open PySem PySem.Spec L2
set_option autoImplicit false
def chars (z : Str) : List D := z.cps.toList.map fun c => .str ⟨#[c]⟩
def itD : D → Option (List D)
  | .lst xs => if xs.length ≤ 16777216 then some xs else none
  | .tup xs => if xs.length ≤ 16777216 then some xs else none
  | .str z => if z.cps.size ≤ 16777216 then some (chars z) else none
  | .scr ns => if ns.length ≤ 16777216 then some (ns.map .int) else none
  | .dct _ ks _ => if ks.length ≤ 16777216 then some ks else none
  | _ => none
def mIt (ma : List Sl → Out D) (env : List Sl) : Out (List D) := (ma env).bind fun d e => ofOpt (itD d) e
/-- 0, 1, .. -/
def rangeD (a b : Int) : List D := (List.range (b - a).toNat).map fun (i : Nat) => .int (a + i)
def rg1 : List D → Option (Int × Int)
  | [.int j] => if -(2 ^ 62) ≤ j ∧ j < 2 ^ 62 ∧ j ≤ 16777216 then some (0, j) else none
  | _ => none
def rg2 : List D → Option (Int × Int)
  | [.int i, .int j] => if (-(2 ^ 62) ≤ i ∧ i < 2 ^ 62 ∧ -(2 ^ 62) ≤ j ∧ j < 2 ^ 62) ∧ (j - i).toNat ≤ 16777216 then some (i, j) else none
  | _ => none
def mRg (r : List D → Option (Int × Int)) (ms : List Sl → Out (List Ar)) (env : List Sl) : Out (List D) := (ms env).bind fun xs e => ofOpt ((looks e xs).bind fun ds => (r ds).map fun p => rangeD p.1 p.2) e
section
variable {G : Glo} {W : WE} {X : Cx} {F H : Hp}
theorem src_list {K : PySem.W.Frag} {a : Addr} {xs : List D} {vs : List V} (h : ∀ H2, Same F H2 → SqL K H2 a vs) (r : RepL G F xs vs) (hz : xs.length ≤ 16777216) : Src G F xs (Itl K a) := by
  refine ⟨by rw [sizeLine_eq]; exact hz, fun H => SqL K H a vs, YAt vs, by rw [r.length]; exact walk_list, h, fun i H2 v H2' F2 k1 k2 hi y => ?_⟩
  obtain ⟨rfl, hy⟩ := y
  obtain ⟨v', h1, h2⟩ := r.get (List.getElem?_eq_getElem hi)
  rw [hy] at h1; cases h1
  exact ⟨F2, _, Pure.refl k2, List.getElem?_eq_getElem hi, Rep.mono k1 _ _ h2⟩
theorem src_tup {K : PySem.W.Frag} {a : Addr} {xs : List D} {vs : List V} (h : F a = some (.tup vs)) (r : RepL G F xs vs) (hz : xs.length ≤ 16777216) : Src G F xs (Itt K a) := by
  refine ⟨by rw [sizeLine_eq]; exact hz, fun H => SqT K H a vs, YAt vs, by rw [r.length]; exact walk_tup, fun H2 k => SqT.of (k _ _ h), fun i H2 v H2' F2 k1 k2 hi y => ?_⟩
  obtain ⟨rfl, hy⟩ := y
  obtain ⟨v', h1, h2⟩ := r.get (List.getElem?_eq_getElem hi)
  rw [hy] at h1; cases h1
  exact ⟨F2, _, Pure.refl k2, List.getElem?_eq_getElem hi, Rep.mono k1 _ _ h2⟩
theorem src_str {z : Str} (hz : z.cps.size ≤ 16777216) : Src G F (chars z) (Its z) := by
  have hl : (chars z).length = z.cps.size := by unfold chars; simp
  refine ⟨by rw [hl, sizeLine_eq]; exact hz, fun H => True, _, by rw [hl]; exact walk_str, fun H2 k => trivial, fun i H2 v H2' F2 k1 k2 hi y => ?_⟩
  obtain ⟨rfl, c, hc, rfl⟩ := y
  refine ⟨F2, .str ⟨#[c]⟩, Pure.refl k2, ?_, by unfold Rep; rfl⟩
  unfold chars
  rw [List.getElem?_map, Array.getElem?_toList, hc]; rfl
theorem src_range {lo hi : Int} (hz : (hi - lo).toNat ≤ 16777216) : Src G F (rangeD lo hi) (Itr lo (hi - lo).toNat) := by
  have hl : (rangeD lo hi).length = (hi - lo).toNat := by unfold rangeD; simp
  refine ⟨by rw [hl, sizeLine_eq]; exact hz, fun H => True, _, by rw [hl]; exact walk_range, fun H2 k => trivial, fun i H2 v H2' F2 k1 k2 hi' y => ?_⟩
  obtain ⟨rfl, rfl⟩ := y
  refine ⟨F2, .int (lo + i), Pure.refl k2, ?_, by unfold Rep; rfl⟩
  rw [hl] at hi'
  unfold rangeD
  rw [List.getElem?_map, List.getElem?_range hi']; rfl
theorem src_keys {d : Addr} {o : Obj} {l : List (Key × V)} {ks : List D} (h : F d = some (.frz o (.dK l))) (hk : ks = l.map fun p => keyD p.1) (hz : ks.length ≤ 16777216) : Src G F ks (Itk d o l) := by
  subst hk
  rw [List.length_map] at hz
  refine ⟨by rw [List.length_map, sizeLine_eq]; exact hz, _, _, by rw [List.length_map]; exact walk_keys, fun H2 k => k _ _ h, fun i H2 v H2' F2 k1 k2 hi y => ?_⟩
  obtain ⟨rfl, k, v0, hk, rfl⟩ := y
  refine ⟨F2, keyD k, Pure.refl k2, by rw [List.getElem?_map, hk]; rfl, ?_⟩
  cases k with
  | inl i => unfold keyD Rep; rfl
  | inr x => unfold keyD Rep; rfl
theorem repL_keyV {F : Hp} : ∀ k : List Key, RepL G F (k.map keyD) (k.map kV)
  | [] => .nil
  | .inl i :: k => .cons (by unfold keyD Rep; rfl) (repL_keyV k)
  | .inr i :: k => .cons (by unfold keyD Rep; rfl) (repL_keyV k)
theorem src_keysT {d : Addr} {o : Obj} {l : List (List Key × V)} {ks : List D} (h : F d = some (.frz o (.dT l))) (hk : ks = l.map fun p => tkeyD p.1) (hz : ks.length ≤ 16777216) : Src G F ks (Itkt d o l) := by
  subst hk
  rw [List.length_map] at hz
  refine ⟨by rw [List.length_map, sizeLine_eq]; exact hz, _, _, by rw [List.length_map]; exact walk_keysT, fun H2 k => k _ _ h, fun i H2 v H2' F2 k1 k2 hi y => ?_⟩
  obtain ⟨rfl, k, v0, q, hk, rfl, hq⟩ := y
  have same : Same F2 (upd F2 q (.tup (k.map kV))) := fun b o e => by
    by_cases z : b = q
    · subst z; rw [k2 _ _ e] at hq; cases hq; exact upd_same
    · rw [upd_ne z]; exact e
  refine ⟨upd F2 q (.tup (k.map kV)), tkeyD k, ⟨same, fun b o e => ?_, Same.refl _, fun b o e => ?_⟩, by rw [List.getElem?_map, hk]; rfl, ?_⟩
  · by_cases z : b = q
    · subst z; rw [upd_same] at e; cases e; exact hq
    · rw [upd_ne z] at e; exact k2 _ _ e
  · by_cases z : b = q
    · subst z; rw [upd_same] at e; cases e; exact .inr (.inr ex_tup)
    · rw [upd_ne z] at e; exact .inl e
  · unfold tkeyD Rep
    exact ⟨q, _, rfl, upd_same, repL_keyV k⟩
theorem i_seq {tg e : Expr} {ma : List Sl → Out D} (hK : G.K = X.K) (he : PE X e (tD G W ma)) : PI X tg e (tI G W (mIt ma)) := by
  refine ⟨fun pins s σ H R I ⟨F, own, env, hs, E, q⟩ => ?_⟩
  unfold mIt at q
  have kont : ∀ {Q : V → Hp → Prop}, (∀ d e1 F1 H1 own1 v, ma env = .ok d e1 → Step F H (Inn own) F1 H1 (Inn own1) → ER G F1 H1 e1 σ own1 → Rep G F1 d v → (∀ xs J, itD d = some xs → Src G F1 xs J → R J H1) → Q v H1) → tD G W ma σ H Q := fun {Q} k => by
    refine ⟨F, own, env, hs, E, ?_⟩
    cases hm : ma env with
    | bad => rw [hm] at q; exact q
    | exc c d e1 => rw [hm] at q; exact q
    | ok d e1 =>
      rw [hm] at q
      intro F1 H1 own1 v st E1 rr
      refine k d e1 F1 H1 own1 v hm st E1 rr fun xs J hx sr => ?_
      have q : Res G W (rI G σ) F H own σ (ofOpt (itD d) e1) R := q
      rw [hx] at q
      exact q F1 H1 own1 J st E1 sr
  cases hm : ma env with
  | bad => rw [hm] at q; exact q.elim
  | exc c d e1 => exact (pi_list (tg := tg) he).run pins s σ H R I (kont fun d e1 F1 H1 own1 v h => by rw [hm] at h; cases h)
  | ok d e1 =>
    have len : ∀ {xs : List D} {n : Nat} {α : Type} {x : α}, True := fun {_ _ _ _} => trivial
    cases d with
    | lst xs =>
      rw [hm] at q
      have q : Res G W (rI G σ) F H own σ (ofOpt (if xs.length ≤ 16777216 then some xs else none) e1) R := q
      by_cases hz : xs.length ≤ 16777216
      case neg => rw [if_neg hz] at q; exact q.elim
      refine (pi_list (tg := tg) he).run pins s σ H R I (kont fun d e1 F1 H1 own1 v h st E1 rr k => ?_)
      rw [hm] at h; cases h
      unfold Rep at rr
      obtain ⟨a, vs, rfl, h1, h2⟩ := rr
      exact ⟨a, rfl, ⟨vs, SqL.of (st.sub _ _ h1)⟩, k xs _ (if_pos hz) (src_list (fun H2 k => SqL.of (k _ _ h1)) h2 hz)⟩
    | tup xs =>
      rw [hm] at q
      have q : Res G W (rI G σ) F H own σ (ofOpt (if xs.length ≤ 16777216 then some xs else none) e1) R := q
      by_cases hz : xs.length ≤ 16777216
      case neg => rw [if_neg hz] at q; exact q.elim
      refine (pi_tup (tg := tg) he).run pins s σ H R I (kont fun d e1 F1 H1 own1 v h st E1 rr k => ?_)
      rw [hm] at h; cases h
      unfold Rep at rr
      obtain ⟨a, vs, rfl, h1, h2⟩ := rr
      exact ⟨a, rfl, ⟨vs, SqT.of (st.sub _ _ h1)⟩, k xs _ (if_pos hz) (src_tup h1 h2 hz)⟩
    | str z =>
      rw [hm] at q
      have q : Res G W (rI G σ) F H own σ (ofOpt (if z.cps.size ≤ 16777216 then some (chars z) else none) e1) R := q
      by_cases hz : z.cps.size ≤ 16777216
      case neg => rw [if_neg hz] at q; exact q.elim
      refine (pi_str (tg := tg) he).run pins s σ H R I (kont fun d e1 F1 H1 own1 v h st E1 rr k => ?_)
      rw [hm] at h; cases h
      unfold Rep at rr
      subst rr
      exact ⟨z, rfl, k _ _ (if_pos hz) (src_str hz)⟩
    | scr ns =>
      rw [hm] at q
      have q : Res G W (rI G σ) F H own σ (ofOpt (if ns.length ≤ 16777216 then some (ns.map D.int) else none) e1) R := q
      by_cases hz : ns.length ≤ 16777216
      case neg => rw [if_neg hz] at q; exact q.elim
      refine (pi_list (tg := tg) he).run pins s σ H R I (kont fun d e1 F1 H1 own1 v h st E1 rr k => ?_)
      rw [hm] at h; cases h
      unfold Rep at rr
      obtain ⟨a, rfl, h1⟩ := rr
      rw [hK] at h1
      have gen : ∀ l : List Int, RepL G F1 (l.map .int) (l.map V.int) := fun l => by
        induction l with
        | nil => exact .nil
        | cons a l ih => exact .cons rep_int ih
      exact ⟨a, rfl, ⟨_, st.sub.seq h1⟩, k _ _ (if_pos hz) (src_list (fun H2 k => k.seq h1) (gen ns) (by rw [List.length_map]; exact hz))⟩
    | dct t ks xs =>
      rw [hm] at q
      have q : Res G W (rI G σ) F H own σ (ofOpt (if ks.length ≤ 16777216 then some ks else none) e1) R := q
      by_cases hz : ks.length ≤ 16777216
      case neg => rw [if_neg hz] at q; exact q.elim
      refine (pi_keys (tg := tg) he).run pins s σ H R I (kont fun d e1 F1 H1 own1 v h st E1 rr k => ?_)
      rw [hm] at h; cases h
      unfold Rep at rr
      obtain ⟨a, vs, rfl, h1, h2⟩ := rr
      rcases h1 with ⟨_, od, l, h3, h4, _⟩ | ⟨_, od, l, h3, h4, _⟩
      · exact ⟨a, od, rfl, .inl ⟨l, st.sub _ _ h3, k _ _ (if_pos hz) (src_keys h3 h4 hz)⟩⟩
      · exact ⟨a, od, rfl, .inr ⟨l, st.sub _ _ h3, k _ _ (if_pos hz) (src_keysT h3 h4 hz)⟩⟩
    | _ => rw [hm] at q; exact q.elim
theorem i_rg1 {tg a : Expr} {p pos : Pos} {ms : List Sl → Out (List Ar)} (h : ∀ t, PA X [a] t → PI X tg (.Call (.Name "range" p) [a] [] pos) (iRng1 t)) (ha : PA X [a] (tAr G W ms)) : PI X tg (.Call (.Name "range" p) [a] [] pos) (tI G W (mRg rg1 ms)) := by
  refine ⟨fun pins s σ H R I ⟨F, own, env, hs, E, q⟩ => (h _ ha).run pins s σ H R I ⟨F, own, env, hs, E, q.bind rI_mono fun xs e1 F1 H1 own1 vs st E1 rx q1 => ?_⟩⟩
  cases hd : looks e1 xs with
  | none => rw [hd] at q1; exact q1.elim
  | some ds =>
    rw [hd] at q1
    have vw := looks_views E1 st.sub rx hd
    have q1 : Res G W (rI G σ) F1 H1 own1 σ (ofOpt ((rg1 ds).map fun p => rangeD p.1 p.2) e1) R := q1
    match ds, vw, q1 with
    | [.int j], vw, q1 =>
      have q1 : Res G W (rI G σ) F1 H1 own1 σ (ofOpt ((if -(2 ^ 62) ≤ j ∧ j < 2 ^ 62 ∧ j ≤ 16777216 then some ((0 : Int), j) else none).map fun p => rangeD p.1 p.2) e1) R := q1
      by_cases hz : -(2 ^ 62) ≤ j ∧ j < 2 ^ 62 ∧ j ≤ 16777216
      · rw [if_pos hz] at q1
        obtain ⟨v, rfl, h1⟩ := views1 vw
        have e0 : (j - 0).toNat = j.toNat := by rw [Int.sub_zero]
        have sr : Src G F1 (rangeD 0 j) (Itr 0 j.toNat) := by
          have := src_range (G := G) (F := F1) (lo := 0) (hi := j) (by omega)
          rw [e0] at this; exact this
        exact ⟨j, by rw [view_int h1], hz.1, hz.2.1, rd_ok st.sub E1 q1 sr⟩
      · rw [if_neg hz] at q1; exact q1.elim
    | [], _, q1 => exact q1.elim
    | .non :: _, _, q1 => exact q1.elim
    | .bl _ :: _, _, q1 => exact q1.elim
    | .str _ :: _, _, q1 => exact q1.elim
    | .tup _ :: _, _, q1 => exact q1.elim
    | .lst _ :: _, _, q1 => exact q1.elim
    | .dct _ _ _ :: _, _, q1 => exact q1.elim
    | .ins _ _ :: _, _, q1 => exact q1.elim
    | .exc _ _ :: _, _, q1 => exact q1.elim
    | .clo _ _ :: _, _, q1 => exact q1.elim
    | .scr _ :: _, _, q1 => exact q1.elim
    | .int _ :: _ :: _, _, q1 => exact q1.elim
end
end PyI

set_option Elab.async false
set_option linter.all false
set_option maxRecDepth 100000
/-! PyI: repr, views, ranges as lists. -/
namespace PyI
open PySem PySem.Spec L2
set_option autoImplicit false
def reprT (d : D) : Option Str := match d with
  | .dct 0 [] [] => some "{}"
  | d => d.py.bind fun p => if p.showable = true ∧ d.dep ≤ 100 ∧ p.shown.length ≤ 16777216 then some p.shown else none
def reprD : List D → Option EV
  | [d] => (reprT d).map fun t => .val (.str t)
  | _ => none
section
variable {G : Glo} {W : WE} {X : Cx} {F H : Hp}
mutual
theorem py_nodict : ∀ (d : D) (p : PyData), d.py = some p → p.hasDict = false
  | .non, _, h => by unfold D.py at h; cases h; rfl
  | .bl b, _, h => by unfold D.py at h; cases h; rfl
  | .int i, _, h => by unfold D.py at h; cases h; rfl
  | .str x, _, h => by unfold D.py at h; cases h; rfl
  | .tup xs, _, h => by
    unfold D.py at h
    cases q : D.pys xs with
    | none => rw [q] at h; cases h
    | some ps => rw [q] at h; cases h; unfold PyData.hasDict; exact pys_nodict xs ps q
  | .lst xs, _, h => by
    unfold D.py at h
    cases q : D.pys xs with
    | none => rw [q] at h; cases h
    | some ps => rw [q] at h; cases h; unfold PyData.hasDict; exact pys_nodict xs ps q
  | .dct _ _ _, _, h => by unfold D.py at h; cases h
  | .ins _ _, _, h => by unfold D.py at h; cases h
  | .exc _ _, _, h => by unfold D.py at h; cases h
  | .clo _ _, _, h => by unfold D.py at h; cases h
  | .scr _, _, h => by unfold D.py at h; cases h
theorem pys_nodict : ∀ (xs : List D) (ps : List PyData), D.pys xs = some ps → PyData.hasDictAll ps = false
  | [], _, h => by unfold D.pys at h; cases h; rfl
  | x :: xs, _, h => by
    unfold D.pys at h
    cases q : D.py x with
    | none => rw [q] at h; cases h
    | some p =>
      cases q2 : D.pys xs with
      | none => rw [q, q2] at h; cases h
      | some ps => rw [q, q2] at h; cases h; unfold PyData.hasDictAll; rw [py_nodict x p q, pys_nodict xs ps q2]; rfl
end
theorem c_repr (hK : G.K = X.K) (hg : X.A.guards = some []) (hu : X.A.units + 200 < cLine) : CallR X (.builtin "repr") (rPN G reprD) := by
  intro pins s σ H vs us Q I rs ⟨F, ds, r, hs, vw, hf, pq⟩
  match ds, hf, vw with
  | [d], hf, vw =>
    have hf : (reprT d).map (fun t => EV.val (.str t)) = some r := hf
    obtain ⟨v, rfl, h1⟩ := views1 vw
    obtain ⟨u, rfl, ru⟩ := Vals.one rs
    cases ht : reprT d with
    | none => rw [ht] at hf; cases hf
    | some t =>
      rw [ht] at hf; cases hf
      have fin : ∀ (h' : Heap) (u' : Value) (t' : Nat), (∀ b o, s.heap.get? b = some o → h'.get? b = some o) → RelV (.str t) u' → EP X pins σ Q u' { s with heap := h', toks := t' } := fun h' u' t' k ru => ⟨.str t, H, I.kept k, ru, pq F H _ (Pure.refl hs) rfl⟩
      have gen : ∀ p, d.py = some p → (if p.showable = true ∧ d.dep ≤ 100 ∧ p.shown.length ≤ 16777216 then some p.shown else none) = some t → wpAny (model X.prog X.w) X.A (call (.builtin "repr") [u]) (EP X pins σ Q) X.xe s := fun p hp hq => by
        by_cases hc : p.showable = true ∧ d.dep ≤ 100 ∧ p.shown.length ≤ 16777216
        case neg => rw [if_neg hc] at hq; cases hq
        rw [if_pos hc] at hq
        have hq := Option.some.inj hq
        obtain ⟨c1, c2, c3⟩ := hc
        have dp := View.dp (K := X.K) hs h1 hp
        obtain ⟨as, rd⟩ := Dp.reads I p v u dp ru
        have hp2 := py_dep d p hp
        have nd := py_nodict d p hp
        have hsz : p.shown.length ≤ sizeLine := by rw [sizeLine_eq]; exact c3
        cases rd with
        | none => subst hq; exact PySem.P.repr_of_none (fin _ _ _ (fun _ _ e => e) ⟨_, rfl⟩)
        | bool b => subst hq; exact PySem.P.repr_of_bool (fin _ _ _ (fun _ _ e => e) ⟨_, rfl⟩)
        | int i tk => subst hq; exact PySem.P.repr_of_int (of_decide_eq_true c1) (fin _ _ _ (fun _ _ e => e) ⟨_, rfl⟩)
        | str x tk => subst hq; exact PySem.P.repr_of_str (fin _ _ _ (fun _ _ e => e) ⟨_, rfl⟩) hsz
        | list e1 e2 e3 e4 =>
          subst hq
          exact PySem.repr_of_reads' (.list e1 e2 e3 e4) c1 (fun z => by rw [nd] at z; cases z) hg (by rw [hp2]; omega) (fun _ _ e => e) (fun h' u' tk k => fin _ _ _ k ⟨_, rfl⟩) hsz
        | tuple e1 e2 e3 e4 =>
          subst hq
          exact PySem.repr_of_reads' (.tuple e1 e2 e3 e4) c1 (fun z => by rw [nd] at z; cases z) hg (by rw [hp2]; omega) (fun _ _ e => e) (fun h' u' tk k => fin _ _ _ k ⟨_, rfl⟩) hsz
        | dict e1 e2 e3 e4 e5 =>
          unfold PyData.hasDict at nd; cases nd
      have gen2 : (d.py.bind fun p => if p.showable = true ∧ d.dep ≤ 100 ∧ p.shown.length ≤ 16777216 then some p.shown else none) = some t → wpAny (model X.prog X.w) X.A (call (.builtin "repr") [u]) (EP X pins σ Q) X.xe s := fun hq => by
        cases hp : d.py with
        | none => rw [hp] at hq; cases hq
        | some p => rw [hp] at hq; exact gen p hp hq
      unfold reprT at ht
      split at ht
      · cases ht
        obtain ⟨a, ws, rfl, h2, h3⟩ := view_dct h1
        cases (show u = Value.ref a from ru)
        have hd : (∃ od, H a = some (.frz od (.dK []))) ∨ H a = some (.dK []) := by
          rcases h2 with (⟨_, od, l, e, e2, _⟩ | ⟨z, _⟩) | (⟨_, l, e, e2, _⟩ | ⟨z, _⟩)
          · cases l with
            | nil => exact .inl ⟨od, e⟩
            | cons _ _ => cases e2
          · cases z
          · cases l with
            | nil => exact .inr e
            | cons _ _ => cases e2
          · cases z
        have rdk : Rd H a (.dK []) := hd.elim (fun ⟨od, e⟩ => .inr ⟨od, e⟩) .inl
        obtain ⟨_, sm, vs0, kv, o, es, ep, g1, g2, g3, _, g4, _⟩ := dk_rd I.hok rdk
        cases kv
        have e0 : es.toList = [] := by cases hes : es.toList with
          | nil => rfl
          | cons _ _ => rw [hes] at g4; cases g4
        have rd : Reads s.heap (.ref a) (.dict []) (a :: [] ++ []) := .dict g1 g2.1 g3 (by rw [e0]; exact .nil) (by rw [e0]; exact .nil)
        exact PySem.repr_of_reads' rd rfl (fun _ z => by
          have : sysModules = a := by simpa using z
          subst this
          simp at sm) hg (by show X.A.units + (_ + 1) < cLine; have : PyData.depth (.dict []) = 1 := rfl; omega) (fun _ _ e => e) (fun h' u' tk k => fin _ _ _ k ⟨_, by first | rfl | decide +kernel⟩) (by decide +kernel)
      · exact gen2 ht
end

/-! ### any(d.values()) -/
def mAnyVals (ma : List Sl → Out Ar) (env : List Sl) : Out EV := (ma env).bind fun x e => ofOpt ((look e x).bind fun d => match d with
  | .dct 0 _ xs => (bls xs).map fun bs => .val (.bl (bs.any id))
  | _ => none) e
section
variable {G : Glo} {W : WE} {X : Cx} {F H : Hp}
theorem s_anyVals {o : Expr} {p pos apos mpos : Pos} {ma : List Sl → Out Ar} (hc : X.calm = true) (hg : Gl X "any") (hm : X.mg "any" = none) (hd : PE X o (tO G W ma)) (hbase : attributeBase o "values" X.env (eval o X.env) = eval o X.env) (hline : (apos.endLine == mpos.line) = true)
    (hse : starEach [Expr.Call (.Attribute o "values" apos) [] [] mpos] X.env = [(false, eval (Expr.Call (.Attribute o "values" apos) [] [] mpos) X.env)]) : PE X (.Call (.Name "any" p) [.Call (.Attribute o "values" apos) [] [] mpos] [] pos) (tM G W (mAnyVals ma)) := by
  refine ⟨fun pins s σ H Q I ⟨F, own, env, hs, E, q⟩ => ?_⟩
  refine wpAny_Call_Name_kw (ld_blt I hg hm (u := .builtin "any") (by first | rfl | decide +kernel) ?_ (by first | decide +kernel | decide) (by first | decide +kernel | decide))
  rw [hse]
  have h0 : tO G W ma σ H fun x H1 => ∃ (a : Addr) (kvs : List (Key × V)) (bs : List Bool), x = V.ref a ∧ Rd H1 a (.dK kvs) ∧ kvs.map (·.2) = bs.map V.bl ∧ Q (.bl (bs.any id)) H1 := ⟨F, own, env, hs, E, q.bind rEV_mono fun x e1 F1 H1 own1 vx st1 E1 rx q1 => by
    cases hl : look e1 x with
    | none => rw [hl] at q1; exact q1.elim
    | some d =>
      rw [hl, Option.bind_some] at q1
      have vd := look_view E1 st1.sub rx hl
      cases d with
      | dct t ks xs =>
        cases t with
        | succ t => exact q1.elim
        | zero =>
          have q1 : Res G W (rEV G σ) F1 H1 own1 σ (ofOpt ((bls xs).map fun bs => EV.val (.bl (bs.any id))) e1) Q := q1
          cases hx : bls xs with
          | none => rw [hx] at q1; exact q1.elim
          | some bs =>
            rw [hx] at q1
            obtain ⟨a, ws, rfl, h2, h3⟩ := view_dct vd
            have hw := bls_rep h3 hx
            have fin : Q (.bl (bs.any id)) H1 := rd_ok (v := V.bl (bs.any id)) st1.sub E1 q1 rfl
            rcases h2 with (⟨_, od, l, e, _, e2⟩ | ⟨z, _⟩) | (⟨_, l, e, _, e2⟩ | ⟨z, _⟩)
            · exact ⟨a, l, bs, rfl, .inr ⟨od, e⟩, by rw [← e2, hw], fin⟩
            · cases z
            · exact ⟨a, l, bs, rfl, .inl e, by rw [← e2, hw], fin⟩
            · cases z
      | _ => exact q1.elim⟩
  refine PySem.callWith_builtin1 (wpAny_Call_method0_late hbase hline (thn (hd.run pins s σ H _ I h0) fun v s1 ⟨x, H1, I1, r1, a, kvs, bs, ex, ha, hv, q⟩ => ?_))
  subst ex
  obtain rfl : v = Value.ref a := r1
  obtain ⟨_, hsys, vs, rel, dof⟩ := dk_rd I1.hok ha
  obtain ⟨ep, dat⟩ := dof.dictAt
  have dat' := dat
  obtain ⟨ob, es, ho, ex, hdat, hko, hpr, hnd⟩ := dat'
  refine ⟨"dict", "dict.values", PySem.F.plainAttrs_dict, PySem.F.slot_dict_values, PySem.F.type_dict_values, ⟨ob, ho, ex.1⟩, fun b e => ?_, Calls.callWith_builtin rfl (PySem.evalArgs_none ?_)⟩
  · cases e
    exact ⟨ob, ho, ex.2.1⟩
  refine call_meetsIn PySem.F.slot_dict_values ⟨ob, ho, ex.1⟩ PySem.F.entry_dict_values (PySem.F.args_dict_values_1 _) (meets_dict_values (mixKind X.prog X.w) a hsys) ⟨⟨vs, dof⟩, ?_⟩
  have k1 : ∀ b u, s1.heap.get? b = some u → (s1.heap.push { cls := .type "dict_values", data := .fields #[.ref a] }).get? b = some u := fun b u e => Heap.get?_push_of_some _ e
  have dat1 : (s1.heap.push { cls := .type "dict_values", data := .fields #[.ref a] }).DictAt (mixKind X.prog X.w) a vs ep := dat.keep k1
  have hlv : vs.length = bs.length := by
    have e1 := congrArg List.length hv
    rw [List.length_map, List.length_map] at e1
    rw [← e1]
    exact (KV.length rel).symm
  have hval : ∀ (i : Nat) (v : Value), (∃ k, vs[i]? = some (k, v)) → v = Value.bool (bs.getD i false) := fun i v ⟨k, hk⟩ => by
    obtain ⟨x, h1, h2⟩ := KV.at' rel hk
    have e1 : (kvs.map (·.2))[i]? = some x := by rw [List.getElem?_map, h1] <;> rfl
    rw [hv, List.getElem?_map] at e1
    obtain ⟨j, hj, e2⟩ := Option.map_eq_some_iff.mp e1
    subst e2
    have h2 : v = Value.bool j := h2
    rw [h2, List.getD_eq_getElem?_getD, hj]; rfl
  refine call_any_walk (wpAny_pyIter_values (v := s1.heap.objs.size) (d := a) ⟨_, Heap.get?_push_size _ rfl, rfl, rfl⟩ dat1 ?_)
  have hlt : a < s1.heap.objs.size := Heap.lt_size ho
  have hsz : (s1.heap.push { cls := .type "dict_values", data := .fields #[.ref a] }).objs.size = s1.heap.objs.size + 1 := Heap.size_push _ _
  refine ⟨_, _, _, _, _, _, fun i => bs.getD i false, rfl, Walks.dictValues (knd := mixKind X.prog X.w) (A := X.A.in1) (I.ok.hd hc) (s1.heap.push { cls := .type "dict_values", data := .fields #[.ref a] }).objs.size a (by rw [hsz]; exact Nat.ne_of_lt (Nat.lt_succ_of_lt hlt)) vs ep,
    ⟨⟨_, Heap.get?_push_size _ rfl, rfl, rfl⟩, dat1.keep fun b u e => Heap.get?_push_of_some _ e⟩, fun i v s Q E hv hq => ?_, fun h' tk hk => ?_⟩
  · rw [hval i v hv]
    exact wpAny_truthy_bool hq
  · refine ⟨.bl (bs.any id), H1, I1.kept (t' := tk) fun b u e => hk b u (fun hmem => ?_) (Heap.get?_push_of_some _ (k1 b u e)), ?_, q⟩
    · have e1 : b = (s1.heap.push { cls := .type "dict_values", data := .fields #[.ref a] }).objs.size := List.mem_singleton.mp hmem
      have e2 := Heap.lt_size e
      rw [hsz] at e1
      rw [e1] at e2
      exact absurd e2 (Nat.not_lt.mpr (Nat.le_succ _))
    · show Value.bool _ = Value.bool _
      rw [hlv, any_range]
end
end PyI

set_option Elab.async false
set_option linter.all false
set_option maxRecDepth 100000
/-! PyI: short forms for printed derivations. -/
namespace PyI
open PySem PySem.Spec L2
set_option autoImplicit false
section
variable {G : Glo} {W : WE} {X : Cx} {lk : List Nat}
/-! constants -/
theorem d_int {i : Int} {j : Nat} {pos : Pos} : PE X (.Constant (.int i) j pos) (tD G W (mC (.int i))) := s_c pe_int fun F => by unfold Rep; rfl
theorem d_bl {i : Bool} {j : Nat} {pos : Pos} : PE X (.Constant (.bool i) j pos) (tD G W (mC (.bl i))) := s_c pe_bl fun F => by unfold Rep; rfl
theorem d_non {j : Nat} {pos : Pos} : PE X (.Constant .none j pos) (tD G W (mC .non)) := s_c pe_non fun F => by unfold Rep; rfl
theorem d_str {i : Str} {j : Nat} {pos : Pos} : PE X (.Constant (.str i) j pos) (tD G W (mC (.str i))) := s_c pe_str fun F => by unfold Rep; rfl
/-- M to D, to an operand -/
theorem mo {e : Expr} {m : List Sl → Out EV} (h : PE X e (tM G W m)) : PE X e (tO G W (mDat (mFz m))) := s_dat (s_fz h)
/-! empty dicts -/
theorem s_dct0 {pos : Pos} : PE X (.Dict [] [] pos) (tM G W fun env => .ok (.new (.dct 0 [])) env) := pe_dnewK.weak fun σ H Q ⟨F, own, env, hs, E, q⟩ => by
  have z := pq_res hs E q
  exact fun p np => z F _ (.ref p) (Pure.lay hs np) ⟨[p], ⟨p, [], rfl, rfl, .inl ⟨rfl, [], upd_same, rfl, rfl⟩, .nil⟩, by simp, fun a ha => by
    have e : a = p := by simpa using ha
    subst e; exact ⟨hs.free np, fun z => z, np⟩⟩
theorem s_dct1 {pos : Pos} : PE X (.Dict [] [] pos) (tM G W fun env => .ok (.new (.dct 1 [])) env) := pe_dnewT.weak fun σ H Q ⟨F, own, env, hs, E, q⟩ => by
  have z := pq_res hs E q
  exact fun p np => z F _ (.ref p) (Pure.lay hs np) ⟨[p], ⟨p, [], rfl, rfl, .inr ⟨rfl, [], upd_same, rfl, rfl⟩, .nil⟩, by simp, fun a ha => by
    have e : a = p := by simpa using ha
    subst e; exact ⟨hs.free np, fun z => z, np⟩⟩
/-! list(range(e)) -/
def mLRg (ma : List Sl → Out Ar) (env : List Sl) : Out EV := (ma env).bind fun x e => ofOpt ((look e x).bind fun d => match d with
  | .int j => if -(2 ^ 62) ≤ j ∧ j < 2 ^ 62 ∧ j ≤ 16777216 then some (.new (.lst (rangeD 0 j))) else none
  | _ => none) e
theorem rep_rg {F : Hp} {lo hi : Int} : RepL G F (rangeD lo hi) (rgV lo hi) := by
  unfold rangeD rgV
  generalize List.range (hi - lo).toNat = l
  induction l with
  | nil => exact .nil
  | cons a l ih => exact .cons (by unfold Rep; rfl) ih
theorem s_lrg {a : Expr} {p p2 pos pos2 : Pos} {ma : List Sl → Out Ar} (hc : X.calm = true) (hl : Gl X "list") (hml : X.mg "list" = none) (hr : ∀ t, PE X a t → PRg X (.Call (.Name "range" p2) [a] [] pos2) (tRg1 t)) (ha : PE X a (tO G W ma))
    (na : starEach [Expr.Call (.Name "range" p2) [a] [] pos2] X.env = (false, eval (.Call (.Name "range" p2) [a] [] pos2) X.env) :: starEach [] X.env) :
    PE X (.Call (.Name "list" p) [.Call (.Name "range" p2) [a] [] pos2] [] pos) (tM G W (mLRg ma)) :=
  (pe_listRg hc hl hml (hr _ ha) na).weak fun σ H Q ⟨F, own, env, hs, E, q⟩ => ⟨F, own, env, hs, E, q.bind rEV_mono fun x e1 F1 H1 own1 vx st1 E1 rx q1 => by
    cases hl : look e1 x with
    | none => rw [hl] at q1; exact q1.elim
    | some d =>
      rw [hl, Option.bind_some] at q1
      have vd := look_view E1 st1.sub rx hl
      cases d with
      | int j =>
        have q1 : Res G W (rEV G σ) F1 H1 own1 σ (ofOpt (if -(2 ^ 62) ≤ j ∧ j < 2 ^ 62 ∧ j ≤ 16777216 then some (.new (.lst (rangeD 0 j))) else none) e1) Q := q1
        by_cases hz : -(2 ^ 62) ≤ j ∧ j < 2 ^ 62 ∧ j ≤ 16777216
        case neg => rw [if_neg hz] at q1; exact q1.elim
        rw [if_pos hz] at q1
        exact ⟨j, view_int vd, ⟨by omega, by omega, hz.1, hz.2.1, by omega⟩, pq_lst st1.sub rep_rg (pq_res st1.sub E1 q1)⟩
      | _ => exact q1.elim⟩
/-! tests of comprehensions -/
theorem PTs.weak {es : List Expr} {t t' : TT} (h : PTs X es t) (k : ∀ σ H Q, t' σ H Q → t σ H Q) : PTs X es t' := ⟨fun pins s σ H Q I q => h.run pins s σ H Q I (k σ H Q q)⟩
theorem pts0 : PTs X [] (tTs G W (bC true)) := PTs.weak pts_nil fun σ H Q h => bc_of h
theorem pts1 {c : Expr} {m : List Sl → Out Bool} (h : PT X c (tTs G W m)) : PTs X [c] (tTs G W m) := L2.pts_one h
/-! calls without arguments -/
theorem s_call0 {e : Expr} {f : List Sl → Out EV} (hb : ∀ args : List Sl, args.length ≠ 0 → f args = .bad) (h : PE X e (tCall (spF G 0 f) [] (EW G W) tNil)) : PE X e (tM G W (mCall f aNil)) :=
  h.weak fun σ H Q ⟨F, own, env, hs, E, q⟩ => by
    have q1 : Res G W (rEV G σ) F H own σ (callA f [] env) Q := q
    exact callA_rd (xs := []) hb hs E (vs := []) rfl q1
end
/-- what a body's wish takes -/
theorem tkW_body {CX0 P : Program} {w : World} {G : Glo} {X : Cx} {E : XK} (h : Takes X fun cls d _ H => E cls d H) : TkW X G (wE G E) := h.imp fun _ _ _ _ z => by
  obtain ⟨c, d, F, env, own, xr, w⟩ := z
  exact w _ _ xr
end PyI

set_option Elab.async false
set_option linter.all false
set_option maxRecDepth 100000
/-! PyI: a program's defs. -/
namespace PyI
open PySem PySem.Spec L2
set_option autoImplicit false
def codeAt (K : PySem.W.Frag) (f : Addr) : Value := match K.lookup f with
  | some ⟨_, _, .func fd, _⟩ => fd.code
  | _ => .none
/-- the global x is a def that keeps f -/
def Has (P : Program) (w : World) (K : PySem.W.Frag) (mg : Str → Option Value) (base : Heap) (G : Glo) (x : Str) (k np : Nat) (f : List Sl → Out EV) : Prop :=
  ∃ fA fd ps, FnG P w K mg base (L2.CX P w) k fA fd ps (spF G np f) ∧ L2.Binds K fd ps [] ∧ PySem.W.keepIn K (.ref fA) = true ∧ mg x = some (.ref fA) ∧ ∀ args : List Sl, args.length ≠ np → f args = .bad
section
variable {P : Program} {w : World} {K : PySem.W.Frag} {mg : Str → Option Value} {base : Heap} {G : Glo}
theorem Has.mono {x : Str} {j k np : Nat} {f : List Sl → Out EV} (h : Has P w K mg base G x j np f) (l : j ≤ k) : Has P w K mg base G x k np f := by
  obtain ⟨fA, fd, ps, F, b⟩ := h
  exact ⟨fA, fd, ps, F.mono l, b⟩
theorem has_of {x : Str} {params : Arguments} {body : List Stmt} {scope : Scope} {fA : Addr} {fd : FuncData} {N ps : List Str} {lk : List Nat} {k : Nat} {m : List Sl → Out SF} (F : FunD K x x params body scope [] [] fA fd) (hmg : mg x = some (.ref fA)) (S : FnScope N ps scope)
    (hb : ∀ (kV doc pm : Value) (an : Option Addr) (cdv ct : Value) (us : List Value), us.length = ps.length → bindArgs (PySem.W.fnOf x x params body scope .none kV doc pm an cdv ct) ⟨us, []⟩ = pure (ps.zip us))
    (hbody : ∀ (cdv : Value) (A : Around) (outer : List Env) (s : Shared) (H : Hp) (E : XK), codeAt K fA = cdv → RoomG k (A.deeper (PyProof.Rows.envOfC x scope s.heap.objs.size fA cdv)) → TkW (cxOf (L2.CX P w) P w K mg base N x scope fA cdv A outer s H E) G (wE G E) →
      PassesOwn (model P w) (cxOf (L2.CX P w) P w K mg base N x scope fA cdv A outer s H E).A (cxOf (L2.CX P w) P w K mg base N x scope fA cdv A outer s H E).env (cxOf (L2.CX P w) P w K mg base N x scope fA cdv A outer s H E).xe →
      PSs (cxOf (L2.CX P w) P w K mg base N x scope fA cdv A outer s H E) body (tS G (wE G E) lk m)) : Has P w K mg base G x (k + 1) ps.length (runF N.length lk ps.length m) := by
  have hN : ps.length ≤ N.length := by
    have q := congrArg List.length S.pre
    rw [List.length_take] at q
    omega
  have b : L2.Binds K fd ps [] := F.bindsN hb
  refine ⟨fA, fd, ps, ?_, b, F.kp, hmg, fun args h => runF_bad args h⟩
  obtain ⟨oc, od, dV, kV, doc, pm, an, cdv, ct, osl, rfl, lk', hcd, hD, hK⟩ := F.ex
  refine fnG_of lk' hcd S (fun vs H Q E h => spF_len h) fun A outer s H vs Q E hr hsp => ⟨_, hbody cdv A outer s H E (by unfold codeAt; rw [lk']) hr ?_ ?_, f_body hN hsp⟩
  · exact tkW_body (P := P) (w := w) (CX0 := P) (takes_of rfl rfl rfl rfl)
  · exact passes_of rfl
section
variable {X : Cx} {W : WE} {x : Str} {k np : Nat} {f : List Sl → Out EV} {p pos : Pos} {e : Expr} {es : List Expr} {ms : List Sl → Out (List Ar)}
theorem s_callF (h : Has X.prog X.w X.K X.mg X.base G x k np f) (hr : RoomG k X.A) (tk : TkW X G W) (hg : Gl X x) (ha : PA X (e :: es) (tAr G W ms)) (hdb : (x == ("__debug__" : Str)) = false) (he : starEach (e :: es) X.env = (false, eval e X.env) :: starEach es X.env) (hpl : (backTo pos (starEach es X.env)).any (·.1) = false) :
    PE X (.Call (.Name x p) (e :: es) [] pos) (tM G W (mCall f ms)) := by
  obtain ⟨fA, fd, ps, F, b, hk, hm, hb⟩ := h
  exact s_call hb (pe_callG F hr hg hm hk b .nil (passW tk) ha hdb he hpl)
theorem s_callF0 (h : Has X.prog X.w X.K X.mg X.base G x k 0 f) (hr : RoomG k X.A) (tk : TkW X G W) (hg : Gl X x) (hdb : (x == ("__debug__" : Str)) = false) : PE X (.Call (.Name x p) [] [] pos) (tM G W (mCall f aNil)) := by
  obtain ⟨fA, fd, ps, F, b, hk, hm, hb⟩ := h
  exact s_call0 hb (pe_callG0 F hr hg hm hk b .nil (passW tk) hdb)
end
end

theorem _root_.L2.Room.un200 {k : Nat} {A : Around} (h : L2.Room k A) : A.units + 200 < cLine := by have := h.un; omega
theorem _root_.L2.Room.un1 {k : Nat} {A : Around} (h : L2.Room k A) : A.units + 1 < cLine := by have := h.un; omega
def mRetN (env : List Sl) : Out SF := .ok (.ret (.val .non)) env
def mD0 (env : List Sl) : Out EV := .ok (.new (.dct 0 [])) env
section
variable {G : Glo} {W : WE} {X : Cx} {x : Str} {p pos : Pos} {e : Expr} {es : List Expr} {ms : List Sl → Out (List Ar)} {id : String} {f : List D → Option EV}
theorem s_blt (hc : CallR X (.builtin id) (rPN G f)) (hg : Gl X x) (hm : X.mg x = none) (hv : bootBuiltins x = some (.builtin id)) (h : PA X (e :: es) (tAr G W ms)) (hn : x ≠ "__name__") (hd : (x == ("__debug__" : Str)) = false)
    (he : starEach (e :: es) X.env = (false, eval e X.env) :: starEach es X.env) (hpl : (backTo pos (starEach es X.env)).any (·.1) = false) : PE X (.Call (.Name x p) (e :: es) [] pos) (tM G W (mN f ms)) :=
  s_callB hc hg hm hv h hn hd (pe_callB hc hg hm hv h hn hd he hpl)
theorem s_ty (hc : CallR X (.type id) (rPN G f)) (hg : Gl X x) (hm : X.mg x = none) (hv : bootBuiltins x = some (.type id)) (h : PA X (e :: es) (tAr G W ms)) (hn : x ≠ "__name__") (hd : (x == ("__debug__" : Str)) = false)
    (he : starEach (e :: es) X.env = (false, eval e X.env) :: starEach es X.env) (hpl : (backTo pos (starEach es X.env)).any (·.1) = false) : PE X (.Call (.Name x p) (e :: es) [] pos) (tM G W (mN f ms)) :=
  s_callT (T := id) h fun t ht => pe_callTy hc hg hm hv ht hn hd he hpl
end
end PyI

set_option Elab.async false
set_option linter.all false
set_option maxRecDepth 100000
/-! PyI: f(e), the new thing that e gives handed over to f. -/
namespace PyI
open PySem PySem.Spec L2
set_option autoImplicit false
def mCallN (f : List Sl → Out EV) (m : List Sl → Out EV) (env : List Sl) : Out EV := (m env).bind fun r e => match f [toSl r] with
  | .ok r' _ => .ok r' e
  | .exc c d _ => .exc c d e
  | .bad => .bad
section
variable {G : Glo} {W : WE}
def own1 (as : List Addr) : Nat → List Addr := fun j => if j = 0 then as else []
theorem own1_in {as : List Addr} {a : Addr} (h : Inn (own1 as) a) : a ∈ as := by
  obtain ⟨j, hj⟩ := h
  unfold own1 at hj
  split at hj
  · exact hj
  · simp at hj
theorem callN_rd {f m : List Sl → Out EV} {F H : Hp} {env : List Sl} {σ : L2.St} {own : Nat → List Addr} {Q : VK} (q : Res G W (rEV G σ) F H own σ (mCallN f m env) Q) :
    Res G W (rEV G σ) F H own σ (m env) fun v H1 => spF G 1 f [v] H1 Q (EW G W) := by
  unfold mCallN at q
  cases hm : m env with
  | bad => rw [hm] at q; exact q
  | exc c d e1 => rw [hm] at q; exact q
  | ok r e1 =>
    rw [hm] at q
    intro F1 H1 ownE v st0 E1 rr
    obtain ⟨as, hsl, hnd, has⟩ : ∃ as, SlRep G F1 H1 (toSl r) (some (some v)) as ∧ as.Nodup ∧ ∀ a ∈ as, F1 a = none ∧ ¬ Inn ownE a ∧ Fre own H a := by
      cases r with
      | val d => exact ⟨[], ⟨rfl, v, rfl, rr⟩, List.nodup_nil, fun _ z => by simp at z⟩
      | new o => obtain ⟨as, h1, h2, h3⟩ := rr; exact ⟨as, ⟨v, rfl, h1⟩, h2, h3⟩
    have Ec : ER G F1 H1 [toSl r] ([v].map some) (own1 as) := {
      len := rfl
      rep := fun i s h => by
        cases i with
        | zero => simp at h; subst h; exact hsl
        | succ i => simp at h
      out := fun i h => by
        cases i with
        | zero => simp at h
        | succ i => rfl
      sep := fun i j a h1 h2 => by
        unfold own1 at h1 h2
        split at h1
        · split at h2
          · omega
          · simp at h2
        · simp at h1
      nd := fun i => by
        unfold own1
        split
        · exact hnd
        · exact List.nodup_nil
      off := fun i a h => (has a (own1_in ⟨i, h⟩)).1
      tab := E1.tab }
    refine ⟨F1, own1 as, [toSl r], rfl, st0.sub, Ec, ?_⟩
    have back : ∀ (args' : List Sl) (F' H' : Hp) (own' : Nat → List Addr), Step F1 H1 (Inn (own1 as)) F' H' (Inn own') → ER G F' H' args' ([v].map some) own' → Step F H (Inn own) F' H' (Inn ownE) ∧ ER G F' H' e1 σ ownE := fun args' F' H' own' st Ea => by
      refine ⟨⟨st0.fz.trans st.fz, st.sub, fun a o e n => ?_, fun a o e => ?_, st0.own⟩, E1.keep st.fz (fun a ha o e => ?_) (fun a ha => ?_) Ea.tab⟩
      · have na : ¬ Inn (own1 as) a := fun z => by
          rcases (has a (own1_in z)).2.2 with y | y
          · exact n y
          · rw [e] at y; cases y
        rcases st0.fr a o e n with y | ⟨y, ps, y2⟩
        · exact st.fr a o y na
        · rcases st.fr a _ y2 na with x | ⟨_, x⟩
          · exact .inr ⟨y, ps, x⟩
          · exact .inr ⟨y, x⟩
      · rcases st.new a o e with y | y | y | y
        · exact st0.new a o y
        · exact (has a (own1_in y)).2.2.elim (fun z => .inr (.inl z)) fun z => .inr (.inr (.inl z))
        · rcases st0.fre (own' := ownE) (own := own) (.inr y) with z | z
          · exact .inr (.inl z)
          · exact .inr (.inr (.inl z))
        · exact .inr (.inr (.inr y))
      · obtain ⟨u, hu, ow⟩ := E1.there ha
        rw [e] at hu; cases hu
        exact st.stay e (fun z => (has a (own1_in z)).2.1 ha) ow.ntb
      · obtain ⟨u, hu, ow⟩ := E1.there ha
        exact st.thaw hu ow (by obtain ⟨i, hi⟩ := ha; exact E1.off i a hi) fun z => (has a (own1_in z)).2.1 ha
    have q : Res G W (rEV G σ) F H own σ (match f [toSl r] with
      | .ok r' _ => .ok r' e1
      | .exc c d _ => .exc c d e1
      | .bad => .bad) Q := q
    cases hf : f [toSl r] with
    | bad => rw [hf] at q; exact q
    | exc c d args' =>
      rw [hf] at q
      intro F' H' own' st Ea cls dd xr
      obtain ⟨b1, b2⟩ := back args' F' H' own' st Ea
      exact ⟨c, d, F', _, _, xr, q F' H' _ b1 b2⟩
    | ok r' args' =>
      rw [hf] at q
      intro F' H' own' v' st Ea rr'
      obtain ⟨b1, b2⟩ := back args' F' H' own' st Ea
      refine q F' H' _ v' b1 b2 ?_
      cases r' with
      | val d => exact rr'
      | new o =>
        obtain ⟨as2, h1, h2, h3⟩ := rr'
        refine ⟨as2, h1, h2, fun a ha => ⟨(h3 a ha).1, fun z => ?_, ?_⟩⟩
        · obtain ⟨u, hu, _⟩ := E1.there z
          rcases (h3 a ha).2.2 with y | y
          · exact (has a (own1_in y)).2.1 z
          · rw [hu] at y; cases y
        · rcases (h3 a ha).2.2 with y | y
          · exact (has a (own1_in y)).2.2
          · exact st0.fre (own' := ownE) (.inr y)
variable {P : Program} {w : World} {K : PySem.W.Frag} {mg : Str → Option Value} {base : Heap} {X : Cx} {x : Str} {k : Nat} {f m : List Sl → Out EV} {p pos : Pos} {e : Expr}
theorem s_callN (h : Has X.prog X.w X.K X.mg X.base G x k 1 f) (hr : RoomG k X.A) (tk : TkW X G W) (hg : Gl X x) (he0 : PE X e (tM G W m)) (hdb : (x == ("__debug__" : Str)) = false) (hs : starEach [e] X.env = (false, eval e X.env) :: starEach [] X.env) (hpl : (backTo pos (starEach [] X.env)).any (·.1) = false) :
    PE X (.Call (.Name x p) [e] [] pos) (tM G W (mCallN f m)) := by
  obtain ⟨fA, fd, ps, F, b, hk, hm, hb⟩ := h
  refine (pe_callG F hr hg hm hk b .nil (passW tk) (pa_cons he0 pa_nil hs) hdb hs hpl).weak fun σ H Q ⟨F, own, env, hs, E, q⟩ => ⟨F, own, env, hs, E, callN_rd q⟩
end
end PyI

set_option Elab.async false
set_option linter.all false
set_option maxRecDepth 100000
/-! k00: the program's facts. -/
namespace PyI
namespace K00
open PySem PySem.Spec L2
set_option autoImplicit false
abbrev prg : Program := PySem.Challenge.pw_cameandleft_k00_each_error_by_itself
def top (i : Nat) : Stmt := prg.main.body.getD i (.Pass ⟨0, 0, 0, 0⟩)
/-- the errors' names, as they stand in the text -/
def errs : List Str := (prg.main.body.filterMap fun st => match st with
  | .ClassDef x .. => some x
  | _ => none)
def errName (n : Nat) : Str := errs.getD n ""
def errC (K : PySem.W.Frag) (n : Nat) : Addr := He.ga K (errName n)
/-! __init__ -/
def clsBody : Stmt → List Stmt
  | .ClassDef _ _ _ b .. => b
  | _ => []
def stI : Stmt := (clsBody (top 1)).getD 0 (.Pass ⟨0, 0, 0, 0⟩)
def exp1 : Stmt → Pos × Pos × Pos × Pos × Pos × Pos
  | .Expr (.Call (.Attribute (.Call (.Name _ p0) _ _ p1) _ p2) [.Name _ p3] _ p4) p5 => (p0, p1, p2, p3, p4, p5)
  | _ => default
def exp2 : Stmt → Pos × Pos × Pos × Pos
  | .Assign [.Attribute (.Name _ p6) _ p7] (.Name _ p8) p9 => (p6, p7, p8, p9)
  | _ => default
def b0 : Stmt := (defBody stI).getD 0 (.Pass ⟨0, 0, 0, 0⟩)
def b1 : Stmt := (defBody stI).getD 1 (.Pass ⟨0, 0, 0, 0⟩)
/-- the function object's closure and code -/
def cloAt (K : PySem.W.Frag) (f : Addr) : Addr := match K.lookup f with
  | some ⟨_, _, .func fd, _⟩ => (match fd.closure with
    | [(_, c)] => c
    | _ => 0)
  | _ => 0
def refOf : Value → Addr
  | .ref a => a
  | _ => 0
def fIn (K : PySem.W.Frag) : Addr := He.ma K (errC K 0) "__init__"
def xi (K : PySem.W.Frag) : XI where
  fI := fIn K
  cc := cloAt K (fIn K)
  cda := refOf (codeAt K (fIn K))
  GE := errC K 0
  p0 := (exp1 b0).1
  p1 := (exp1 b0).2.1
  p2 := (exp1 b0).2.2.1
  p3 := (exp1 b0).2.2.2.1
  p4 := (exp1 b0).2.2.2.2.1
  p5 := (exp1 b0).2.2.2.2.2
  p6 := (exp2 b1).1
  p7 := (exp2 b1).2.1
  p8 := (exp2 b1).2.2.1
  p9 := (exp2 b1).2.2.2
  qual := "GuestError.__init__"
  params := defArgs stI
  scope := defScope stI
example : (xi []).body = defBody stI := by rfl
/-! the lambdas -/
def iMade : Nat := 57
def lamOf : Stmt → Arguments × Expr × Scope
  | .Expr (.Call _ [.Tuple [_, .Lambda p b s _] _ _] _ _) _ => (p, b, s)
  | _ => (⟨[], [], none, [], [], none, []⟩, .Constant .none 0 ⟨0, 0, 0, 0⟩, default)
def lamQual : Str := "_law_made" ++ ".<locals>." ++ "<lambda>"
def lf (n : Nat) : LF := ⟨lamQual, (lamOf ((defBody (top iMade)).getD (n + 1) (.Pass ⟨0, 0, 0, 0⟩))).1, (lamOf ((defBody (top iMade)).getD (n + 1) (.Pass ⟨0, 0, 0, 0⟩))).2.1, (lamOf ((defBody (top iMade)).getD (n + 1) (.Pass ⟨0, 0, 0, 0⟩))).2.2⟩
/-- the error that the n-th makes -/
def lamName : Expr → Str
  | .Call (.Name x _) _ _ _ => x
  | _ => ""
def lamErr (n : Nat) : Nat := errs.idxOf (lamName (lf n).body)

/-! ### the facts -/
def refIn (v : Value) : Addr := refOf v
def fAd (K : PySem.W.Frag) (x : Str) : Addr := He.fAd K (x, none)
def cMade (K : PySem.W.Frag) : Addr := refOf (codeAt K (fAd K "_law_made"))
def isaT : TC → CRf → Option Bool
  | .exc c, .own k => if c < 50 ∧ k < 50 then some (c == k || k == 0) else none
  | .exc c, .ty n => if c < 50 ∧ n = "ValueError" then some true else none
  | _, _ => none
def xk (c : Nat) : Bool := decide (c < 50)
def frees : List Str := ["abs", "any", "int", "isinstance", "len", "list", "max", "min", "range", "repr", "sum", "ValueError"]
def fns : List (Str × Nat) := [("_law_pot", 52), ("_law_take", 53), ("_law_of", 54), ("_law_cells", 55), ("_law_odd", 56), ("_law_made", 57), ("_law_marks", 58), ("_law_is_right", 59), ("_law_right", 60), ("law", 61)]
/-- T: where the table of _law_made's code object lies -/
def gl (K : PySem.W.Frag) (T : Addr) : Glo where
  K := K
  cls := fun n => if n < 50 then some (errC K n) else none
  nms := fun _ => []
  lam := fun n => if n < 49 then some (lf n) else none
  tabs := [(T, lamQual)]
structure Fx (P : Program) (K : PySem.W.Frag) (mg : Str → Option Value) (base : Heap) (T : Addr) : Prop where
  fr : ∀ x, x ∈ frees → mg x = none
  fn : ∀ x i, (x, i) ∈ fns → ∃ fd, FunD K x x (defArgs (top i)) (defBody (top i)) (defScope (top i)) [] [] (fAd K x) fd
  gf : ∀ x i, (x, i) ∈ fns → mg x = some (.ref (fAd K x))
  xi : XiOk P K mg (xi K)
  xc : ∀ n, n < 50 → XcOk K (K00.xi K) (errC K n)
  ge : ∀ n, n < 50 → mg (errName n) = some (.ref (errC K n))
  isa : IsaOk K (gl K T) isaT
  xf : ∀ n, n < 50 → XfC K (errC K n) ∧ PySem.W.findIn K (.ref (errC K n)) "value" = some none
  made : ∀ cdv, codeAt K (fAd K "_law_made") = cdv → cdv = .ref (cMade K)
  tab : LamX.TabB base mg (cMade K) T
structure GlOk (K : PySem.W.Frag) (T : Addr) (G : Glo) : Prop where
  cls : ∀ n, n < 50 → G.cls n = some (errC K n)
  clsv : ∀ n, n < 50 → (CRf.own n).v G = some (.ref (errC K n))
  lam : ∀ n, n < 49 → G.lam n = some (lf n)
  isa : IsaOk K G isaT
  xf : ∀ c C, G.cls c = some C → xk c = true → XfC K C ∧ PySem.W.findIn K (.ref C) "value" = some none
section
variable {P : Program} {w : World} {K : PySem.W.Frag} {mg : Str → Option Value} {base : Heap} {T : Addr}
theorem glOk (hX : Fx P K mg base T) : GlOk K T (gl K T) where
  cls := fun n h => if_pos h
  clsv := fun n h => by show (if n < 50 then some (errC K n) else none).map V.ref = _; rw [if_pos h]; rfl
  lam := fun n h => if_pos h
  isa := hX.isa
  xf := fun c C h hx => by
    have hc : c < 50 := of_decide_eq_true hx
    have h : (if c < 50 then some (errC K c) else none) = some C := h
    rw [if_pos hc] at h; cases h
    exact hX.xf c hc
/-! ### the lambdas keep their promise -/
def lamF (n : Nat) : List Sl → Out EV := runF 1 [] 1 (mRet (mErr (lamErr n) (mVar 0)))
/-- value: X(value) -/
def lamB (L : LF) (c : Nat) : Bool :=
  (match L.body with
  | .Call (.Name x _) [.Name y _] [] _ => decide (x = errName c) && decide (y = "value")
  | _ => false) && NdefX.nscB ["value"] ["value"] [] L.scope && decide (L.scope.names.lookup (errName c) = some .globalImplicit) && !(errName c == ("__debug__" : Str))
def parB : Arguments → Bool
  | ⟨[], [⟨x, none, _⟩], none, [], [], none, []⟩ => decide (x = "value")
  | _ => false
theorem lamAllB : ((List.range 49).all fun n => decide (lamErr n < 50) && lamB (lf n) (lamErr n) && parB (lf n).params) = true := by decide +kernel
theorem lam_err {L : LF} {c : Nat} (hX : Fx P K mg base T) (hc : c < 50) (h : lamB L c = true) (hb : ∀ (pm ctv : Value) (c' : Addr) (us : List Value), us.length = 1 → bindArgs (PySem.W.kla_fn "<lambda>" L.qual L.params L.body L.scope [] pm (.ref c') ctv) ⟨us, []⟩ = pure ((["value"] : List Str).zip us)) :
    LamOk P w K mg base (L2.CX P w) 3 (gl K T) L 1 (runF 1 [] 1 (mRet (mErr c (mVar 0)))) := by
  unfold lamB at h
  simp only [Bool.and_eq_true, decide_eq_true_eq, Bool.not_eq_true'] at h
  obtain ⟨⟨⟨h1, h2⟩, h3⟩, h4⟩ := h
  have S := NdefX.nscope_by h2
  refine lam_of (k := 2) (N := ["value"]) (ps := ["value"]) S hb fun A outer s H E f c' hr => ?_
  split at h1
  · rename_i x p1 y p2 p3 hbd
    simp only [Bool.and_eq_true, decide_eq_true_eq] at h1
    obtain ⟨rfl, rfl⟩ := h1
    rw [hbd]
    exact s_err ((glOk hX).cls c hc) (fun te h => pe_mkE hX.xi (hX.xc c hc) hr.r h3 (hX.ge c hc) h h4 rfl) (s_mVar (pe_var (i := 0) rfl (.inl (S.par _ (by simp))) (by decide) (by decide)))
  · cases h1
theorem lamAll (hX : Fx P K mg base T) : ∀ n L, (gl K T).lam n = some L → LamOk P w K mg base (L2.CX P w) 3 (gl K T) L 1 (lamF n) := fun n L h => by
  have h : (if n < 49 then some (lf n) else none) = some L := h
  split at h
  · rename_i hn
    cases h
    have q := List.all_eq_true.mp lamAllB n (List.mem_range.mpr hn)
    simp only [Bool.and_eq_true, decide_eq_true_eq] at q
    refine lam_err hX q.1.1 q.1.2 fun pm ctv c' us hl => ?_
    have hp := q.2
    unfold parB at hp
    split at hp
    · rename_i x pos he
      have hp := of_decide_eq_true hp
      subst hp
      rw [he]
      match us, hl with
      | [_], _ => rfl
    · cases hp
  · cases h
end
end K00
end PyI

set_option Elab.async false
set_option linter.all false
set_option maxRecDepth 100000
set_option maxHeartbeats 0
namespace PyI
namespace K00
open PySem PySem.Spec L2
set_option autoImplicit false
section
variable {P : Program} {w : World} {K : PySem.W.Frag} {mg : Str → Option Value} {base : Heap} {T : Addr}
/-! _law_cells -/
abbrev st_law_cells : Stmt := top 55
def b_law_cells : List Sl → Out SF := mSeq (mRet (mLRg (mDat (mFz (mN max2D (aCons (mDat (mC (.int 1))) (aCons (mDat (mFz (mN min2D (aCons (oVar 1) (aCons (mDat (mFz (mN lenD (aCons (oVar 0) (aNil))))) (aNil)))))) (aNil)))))))) (mSkip)
def e_law_cells : List Sl → Out EV := runF 2 [0, 1] 2 b_law_cells
theorem sc_law_cells : FnScope ["script", "most"] ["script", "most"] (defScope st_law_cells) := ⟨rfl, rfl, rfl, by decide +kernel, rfl, by decide +kernel, by decide +kernel⟩
theorem h_law_cells (hX : Fx P K mg base T) : Has P w K mg base (gl K T) "_law_cells" 5 2 e_law_cells := by
  have hS := sc_law_cells
  have hK : (gl K T).K = K := rfl
  have hG := glOk hX
  obtain ⟨fd, F⟩ := hX.fn "_law_cells" 55 (by decide)
  refine has_of (N := ["script", "most"]) (ps := ["script", "most"]) (lk := [0, 1]) (k := 4) (m := b_law_cells) F (hX.gf "_law_cells" 55 (by decide)) hS (fun _ _ _ _ _ _ us hl => match us, hl with | [_, _], _ => rfl) fun cdv A outer s H E hcd hr tk hp => ?_
  exact ss_cons (st_ret (s_lrg rfl rfl (hX.fr _ (by decide)) (fun t h => prg_1 rfl (hX.fr _ (by decide)) h) (s_dat (s_fz (s_blt (c_max2 rfl) rfl (hX.fr _ (by decide)) rfl (a_cons (s_dat (d_int)) (a_cons (s_dat (s_fz (s_blt (c_min2 rfl) rfl (hX.fr _ (by decide)) rfl (a_cons (s_oVar (pv 1)) (a_cons (s_dat (s_fz (s_blt (c_len hK) rfl (hX.fr _ (by decide)) rfl (a_cons (s_oVar (pv 0)) (a_nil) rfl) (by decide) (by decide) rfl rfl))) (a_nil) rfl) rfl) (by decide) (by decide) rfl rfl))) (a_nil) rfl) rfl) (by decide) (by decide) rfl rfl))) rfl)) (ss_nil)
/-! _law_made -/
abbrev st_law_made : Stmt := top 57
def b_law_made : List Sl → Out SF := mSeq (mSet [] 0 (mLst (aNil))) (mSeq (mExpr (mMutL true fAppend 0 (aCons (mDat (mFz (mTup (aCons (mDat (mC (.str "BadArrival"))) (aCons (mDat (mFz (mClo 0))) (aNil)))))) (aNil)))) (mSeq (mExpr (mMutL true fAppend 0 (aCons (mDat (mFz (mTup (aCons (mDat (mC (.str "BadBounds"))) (aCons (mDat (mFz (mClo 1))) (aNil)))))) (aNil)))) (mSeq (mExpr (mMutL true fAppend 0 (aCons (mDat (mFz (mTup (aCons (mDat (mC (.str "BadDays"))) (aCons (mDat (mFz (mClo 2))) (aNil)))))) (aNil)))) (mSeq (mExpr (mMutL true fAppend 0 (aCons (mDat (mFz (mTup (aCons (mDat (mC (.str "BadDeed"))) (aCons (mDat (mFz (mClo 3))) (aNil)))))) (aNil)))) (mSeq (mExpr (mMutL true fAppend 0 (aCons (mDat (mFz (mTup (aCons (mDat (mC (.str "BadEvent"))) (aCons (mDat (mFz (mClo 4))) (aNil)))))) (aNil)))) (mSeq (mExpr (mMutL true fAppend 0 (aCons (mDat (mFz (mTup (aCons (mDat (mC (.str "BadForest"))) (aCons (mDat (mFz (mClo 5))) (aNil)))))) (aNil)))) (mSeq (mExpr (mMutL true fAppend 0 (aCons (mDat (mFz (mTup (aCons (mDat (mC (.str "BadHall"))) (aCons (mDat (mFz (mClo 6))) (aNil)))))) (aNil)))) (mSeq (mExpr (mMutL true fAppend 0 (aCons (mDat (mFz (mTup (aCons (mDat (mC (.str "BadJournal"))) (aCons (mDat (mFz (mClo 7))) (aNil)))))) (aNil)))) (mSeq (mExpr (mMutL true fAppend 0 (aCons (mDat (mFz (mTup (aCons (mDat (mC (.str "BadKeeping"))) (aCons (mDat (mFz (mClo 8))) (aNil)))))) (aNil)))) (mSeq (mExpr (mMutL true fAppend 0 (aCons (mDat (mFz (mTup (aCons (mDat (mC (.str "BadLetters"))) (aCons (mDat (mFz (mClo 9))) (aNil)))))) (aNil)))) (mSeq (mExpr (mMutL true fAppend 0 (aCons (mDat (mFz (mTup (aCons (mDat (mC (.str "BadLine"))) (aCons (mDat (mFz (mClo 10))) (aNil)))))) (aNil)))) (mSeq (mExpr (mMutL true fAppend 0 (aCons (mDat (mFz (mTup (aCons (mDat (mC (.str "BadLot"))) (aCons (mDat (mFz (mClo 11))) (aNil)))))) (aNil)))) (mSeq (mExpr (mMutL true fAppend 0 (aCons (mDat (mFz (mTup (aCons (mDat (mC (.str "BadMeets"))) (aCons (mDat (mFz (mClo 12))) (aNil)))))) (aNil)))) (mSeq (mExpr (mMutL true fAppend 0 (aCons (mDat (mFz (mTup (aCons (mDat (mC (.str "BadMoment"))) (aCons (mDat (mFz (mClo 13))) (aNil)))))) (aNil)))) (mSeq (mExpr (mMutL true fAppend 0 (aCons (mDat (mFz (mTup (aCons (mDat (mC (.str "BadNote"))) (aCons (mDat (mFz (mClo 14))) (aNil)))))) (aNil)))) (mSeq (mExpr (mMutL true fAppend 0 (aCons (mDat (mFz (mTup (aCons (mDat (mC (.str "BadNotes"))) (aCons (mDat (mFz (mClo 15))) (aNil)))))) (aNil)))) (mSeq (mExpr (mMutL true fAppend 0 (aCons (mDat (mFz (mTup (aCons (mDat (mC (.str "BadNumber"))) (aCons (mDat (mFz (mClo 16))) (aNil)))))) (aNil)))) (mSeq (mExpr (mMutL true fAppend 0 (aCons (mDat (mFz (mTup (aCons (mDat (mC (.str "BadNumbers"))) (aCons (mDat (mFz (mClo 17))) (aNil)))))) (aNil)))) (mSeq (mExpr (mMutL true fAppend 0 (aCons (mDat (mFz (mTup (aCons (mDat (mC (.str "BadPlan"))) (aCons (mDat (mFz (mClo 18))) (aNil)))))) (aNil)))) (mSeq (mExpr (mMutL true fAppend 0 (aCons (mDat (mFz (mTup (aCons (mDat (mC (.str "BadPledge"))) (aCons (mDat (mFz (mClo 19))) (aNil)))))) (aNil)))) (mSeq (mExpr (mMutL true fAppend 0 (aCons (mDat (mFz (mTup (aCons (mDat (mC (.str "BadQueues"))) (aCons (mDat (mFz (mClo 20))) (aNil)))))) (aNil)))) (mSeq (mExpr (mMutL true fAppend 0 (aCons (mDat (mFz (mTup (aCons (mDat (mC (.str "BadRow"))) (aCons (mDat (mFz (mClo 21))) (aNil)))))) (aNil)))) (mSeq (mExpr (mMutL true fAppend 0 (aCons (mDat (mFz (mTup (aCons (mDat (mC (.str "BadSaying"))) (aCons (mDat (mFz (mClo 22))) (aNil)))))) (aNil)))) (mSeq (mExpr (mMutL true fAppend 0 (aCons (mDat (mFz (mTup (aCons (mDat (mC (.str "BadStatement"))) (aCons (mDat (mFz (mClo 23))) (aNil)))))) (aNil)))) (mSeq (mExpr (mMutL true fAppend 0 (aCons (mDat (mFz (mTup (aCons (mDat (mC (.str "BadTable"))) (aCons (mDat (mFz (mClo 24))) (aNil)))))) (aNil)))) (mSeq (mExpr (mMutL true fAppend 0 (aCons (mDat (mFz (mTup (aCons (mDat (mC (.str "BadTrain"))) (aCons (mDat (mFz (mClo 25))) (aNil)))))) (aNil)))) (mSeq (mExpr (mMutL true fAppend 0 (aCons (mDat (mFz (mTup (aCons (mDat (mC (.str "BadTree"))) (aCons (mDat (mFz (mClo 26))) (aNil)))))) (aNil)))) (mSeq (mExpr (mMutL true fAppend 0 (aCons (mDat (mFz (mTup (aCons (mDat (mC (.str "BadWeights"))) (aCons (mDat (mFz (mClo 27))) (aNil)))))) (aNil)))) (mSeq (mExpr (mMutL true fAppend 0 (aCons (mDat (mFz (mTup (aCons (mDat (mC (.str "CanBe"))) (aCons (mDat (mFz (mClo 28))) (aNil)))))) (aNil)))) (mSeq (mExpr (mMutL true fAppend 0 (aCons (mDat (mFz (mTup (aCons (mDat (mC (.str "CanNot"))) (aCons (mDat (mFz (mClo 29))) (aNil)))))) (aNil)))) (mSeq (mExpr (mMutL true fAppend 0 (aCons (mDat (mFz (mTup (aCons (mDat (mC (.str "Claws"))) (aCons (mDat (mFz (mClo 30))) (aNil)))))) (aNil)))) (mSeq (mExpr (mMutL true fAppend 0 (aCons (mDat (mFz (mTup (aCons (mDat (mC (.str "Known"))) (aCons (mDat (mFz (mClo 31))) (aNil)))))) (aNil)))) (mSeq (mExpr (mMutL true fAppend 0 (aCons (mDat (mFz (mTup (aCons (mDat (mC (.str "Late"))) (aCons (mDat (mFz (mClo 32))) (aNil)))))) (aNil)))) (mSeq (mExpr (mMutL true fAppend 0 (aCons (mDat (mFz (mTup (aCons (mDat (mC (.str "Met"))) (aCons (mDat (mFz (mClo 33))) (aNil)))))) (aNil)))) (mSeq (mExpr (mMutL true fAppend 0 (aCons (mDat (mFz (mTup (aCons (mDat (mC (.str "NoGuest"))) (aCons (mDat (mFz (mClo 34))) (aNil)))))) (aNil)))) (mSeq (mExpr (mMutL true fAppend 0 (aCons (mDat (mFz (mTup (aCons (mDat (mC (.str "NoHall"))) (aCons (mDat (mFz (mClo 35))) (aNil)))))) (aNil)))) (mSeq (mExpr (mMutL true fAppend 0 (aCons (mDat (mFz (mTup (aCons (mDat (mC (.str "NoPlan"))) (aCons (mDat (mFz (mClo 36))) (aNil)))))) (aNil)))) (mSeq (mExpr (mMutL true fAppend 0 (aCons (mDat (mFz (mTup (aCons (mDat (mC (.str "NoTrial"))) (aCons (mDat (mFz (mClo 37))) (aNil)))))) (aNil)))) (mSeq (mExpr (mMutL true fAppend 0 (aCons (mDat (mFz (mTup (aCons (mDat (mC (.str "NotLayered"))) (aCons (mDat (mFz (mClo 38))) (aNil)))))) (aNil)))) (mSeq (mExpr (mMutL true fAppend 0 (aCons (mDat (mFz (mTup (aCons (mDat (mC (.str "NotSo"))) (aCons (mDat (mFz (mClo 39))) (aNil)))))) (aNil)))) (mSeq (mExpr (mMutL true fAppend 0 (aCons (mDat (mFz (mTup (aCons (mDat (mC (.str "NotSure"))) (aCons (mDat (mFz (mClo 40))) (aNil)))))) (aNil)))) (mSeq (mExpr (mMutL true fAppend 0 (aCons (mDat (mFz (mTup (aCons (mDat (mC (.str "NothingToRedo"))) (aCons (mDat (mFz (mClo 41))) (aNil)))))) (aNil)))) (mSeq (mExpr (mMutL true fAppend 0 (aCons (mDat (mFz (mTup (aCons (mDat (mC (.str "NothingToUndo"))) (aCons (mDat (mFz (mClo 42))) (aNil)))))) (aNil)))) (mSeq (mExpr (mMutL true fAppend 0 (aCons (mDat (mFz (mTup (aCons (mDat (mC (.str "Rings"))) (aCons (mDat (mFz (mClo 43))) (aNil)))))) (aNil)))) (mSeq (mExpr (mMutL true fAppend 0 (aCons (mDat (mFz (mTup (aCons (mDat (mC (.str "Same"))) (aCons (mDat (mFz (mClo 44))) (aNil)))))) (aNil)))) (mSeq (mExpr (mMutL true fAppend 0 (aCons (mDat (mFz (mTup (aCons (mDat (mC (.str "TooFew"))) (aCons (mDat (mFz (mClo 45))) (aNil)))))) (aNil)))) (mSeq (mExpr (mMutL true fAppend 0 (aCons (mDat (mFz (mTup (aCons (mDat (mC (.str "TooMany"))) (aCons (mDat (mFz (mClo 46))) (aNil)))))) (aNil)))) (mSeq (mExpr (mMutL true fAppend 0 (aCons (mDat (mFz (mTup (aCons (mDat (mC (.str "TooTight"))) (aCons (mDat (mFz (mClo 47))) (aNil)))))) (aNil)))) (mSeq (mExpr (mMutL true fAppend 0 (aCons (mDat (mFz (mTup (aCons (mDat (mC (.str "Unlike"))) (aCons (mDat (mFz (mClo 48))) (aNil)))))) (aNil)))) (mSeq (mRet (vMove [] 0)) (mSkip)))))))))))))))))))))))))))))))))))))))))))))))))))
def e_law_made : List Sl → Out EV := runF 1 [] 0 b_law_made
theorem sc_law_made : FnScope ["found"] [] (defScope st_law_made) := ⟨rfl, rfl, rfl, by decide +kernel, rfl, by decide +kernel, by decide +kernel⟩
theorem h_law_made (hX : Fx P K mg base T) : Has P w K mg base (gl K T) "_law_made" 5 0 e_law_made := by
  have hS := sc_law_made
  have hK : (gl K T).K = K := rfl
  have hG := glOk hX
  obtain ⟨fd, F⟩ := hX.fn "_law_made" 57 (by decide)
  refine has_of (N := ["found"]) (ps := []) (lk := []) (k := 4) (m := b_law_made) F (hX.gf "_law_made" 57 (by decide)) hS (fun _ _ _ _ _ _ us hl => match us, hl with | [], _ => rfl) fun cdv A outer s H E hcd hr tk hp => ?_
  have hcode := hX.made cdv hcd
  have hTB := hX.tab
  have hmem : (T, lamQual) ∈ (gl K T).tabs := List.mem_singleton.mpr rfl
  have huniq : ∀ p ∈ (gl K T).tabs, p.1 = T → p.2 = lamQual := fun p hp _ => by rw [List.mem_singleton.mp hp]
  exact ss_cons (st_set (s_lst (a_nil)) (fun te h => ps_set hS.nd rfl (by first | exact .inl rfl | exact .inr rfl) h)) (ss_cons (st_expr (s_mutL hK PySem.F.slot_list_append PySem.F.type_list_append mu_append (pv 0) (a_cons (s_dat (s_fz (s_tup (a_cons (s_dat (d_str)) (a_cons (s_dat (s_fz (s_lam (n := 0) (L := lf 0) (hG.lam 0 (by decide)) hTB hcode rfl hmem huniq rfl (by decide +kernel)))) (a_nil) rfl) rfl)))) (a_nil) rfl) rfl rfl rfl rfl rfl) rfl) (ss_cons (st_expr (s_mutL hK PySem.F.slot_list_append PySem.F.type_list_append mu_append (pv 0) (a_cons (s_dat (s_fz (s_tup (a_cons (s_dat (d_str)) (a_cons (s_dat (s_fz (s_lam (n := 1) (L := lf 1) (hG.lam 1 (by decide)) hTB hcode rfl hmem huniq rfl (by decide +kernel)))) (a_nil) rfl) rfl)))) (a_nil) rfl) rfl rfl rfl rfl rfl) rfl) (ss_cons (st_expr (s_mutL hK PySem.F.slot_list_append PySem.F.type_list_append mu_append (pv 0) (a_cons (s_dat (s_fz (s_tup (a_cons (s_dat (d_str)) (a_cons (s_dat (s_fz (s_lam (n := 2) (L := lf 2) (hG.lam 2 (by decide)) hTB hcode rfl hmem huniq rfl (by decide +kernel)))) (a_nil) rfl) rfl)))) (a_nil) rfl) rfl rfl rfl rfl rfl) rfl) (ss_cons (st_expr (s_mutL hK PySem.F.slot_list_append PySem.F.type_list_append mu_append (pv 0) (a_cons (s_dat (s_fz (s_tup (a_cons (s_dat (d_str)) (a_cons (s_dat (s_fz (s_lam (n := 3) (L := lf 3) (hG.lam 3 (by decide)) hTB hcode rfl hmem huniq rfl (by decide +kernel)))) (a_nil) rfl) rfl)))) (a_nil) rfl) rfl rfl rfl rfl rfl) rfl) (ss_cons (st_expr (s_mutL hK PySem.F.slot_list_append PySem.F.type_list_append mu_append (pv 0) (a_cons (s_dat (s_fz (s_tup (a_cons (s_dat (d_str)) (a_cons (s_dat (s_fz (s_lam (n := 4) (L := lf 4) (hG.lam 4 (by decide)) hTB hcode rfl hmem huniq rfl (by decide +kernel)))) (a_nil) rfl) rfl)))) (a_nil) rfl) rfl rfl rfl rfl rfl) rfl) (ss_cons (st_expr (s_mutL hK PySem.F.slot_list_append PySem.F.type_list_append mu_append (pv 0) (a_cons (s_dat (s_fz (s_tup (a_cons (s_dat (d_str)) (a_cons (s_dat (s_fz (s_lam (n := 5) (L := lf 5) (hG.lam 5 (by decide)) hTB hcode rfl hmem huniq rfl (by decide +kernel)))) (a_nil) rfl) rfl)))) (a_nil) rfl) rfl rfl rfl rfl rfl) rfl) (ss_cons (st_expr (s_mutL hK PySem.F.slot_list_append PySem.F.type_list_append mu_append (pv 0) (a_cons (s_dat (s_fz (s_tup (a_cons (s_dat (d_str)) (a_cons (s_dat (s_fz (s_lam (n := 6) (L := lf 6) (hG.lam 6 (by decide)) hTB hcode rfl hmem huniq rfl (by decide +kernel)))) (a_nil) rfl) rfl)))) (a_nil) rfl) rfl rfl rfl rfl rfl) rfl) (ss_cons (st_expr (s_mutL hK PySem.F.slot_list_append PySem.F.type_list_append mu_append (pv 0) (a_cons (s_dat (s_fz (s_tup (a_cons (s_dat (d_str)) (a_cons (s_dat (s_fz (s_lam (n := 7) (L := lf 7) (hG.lam 7 (by decide)) hTB hcode rfl hmem huniq rfl (by decide +kernel)))) (a_nil) rfl) rfl)))) (a_nil) rfl) rfl rfl rfl rfl rfl) rfl) (ss_cons (st_expr (s_mutL hK PySem.F.slot_list_append PySem.F.type_list_append mu_append (pv 0) (a_cons (s_dat (s_fz (s_tup (a_cons (s_dat (d_str)) (a_cons (s_dat (s_fz (s_lam (n := 8) (L := lf 8) (hG.lam 8 (by decide)) hTB hcode rfl hmem huniq rfl (by decide +kernel)))) (a_nil) rfl) rfl)))) (a_nil) rfl) rfl rfl rfl rfl rfl) rfl) (ss_cons (st_expr (s_mutL hK PySem.F.slot_list_append PySem.F.type_list_append mu_append (pv 0) (a_cons (s_dat (s_fz (s_tup (a_cons (s_dat (d_str)) (a_cons (s_dat (s_fz (s_lam (n := 9) (L := lf 9) (hG.lam 9 (by decide)) hTB hcode rfl hmem huniq rfl (by decide +kernel)))) (a_nil) rfl) rfl)))) (a_nil) rfl) rfl rfl rfl rfl rfl) rfl) (ss_cons (st_expr (s_mutL hK PySem.F.slot_list_append PySem.F.type_list_append mu_append (pv 0) (a_cons (s_dat (s_fz (s_tup (a_cons (s_dat (d_str)) (a_cons (s_dat (s_fz (s_lam (n := 10) (L := lf 10) (hG.lam 10 (by decide)) hTB hcode rfl hmem huniq rfl (by decide +kernel)))) (a_nil) rfl) rfl)))) (a_nil) rfl) rfl rfl rfl rfl rfl) rfl) (ss_cons (st_expr (s_mutL hK PySem.F.slot_list_append PySem.F.type_list_append mu_append (pv 0) (a_cons (s_dat (s_fz (s_tup (a_cons (s_dat (d_str)) (a_cons (s_dat (s_fz (s_lam (n := 11) (L := lf 11) (hG.lam 11 (by decide)) hTB hcode rfl hmem huniq rfl (by decide +kernel)))) (a_nil) rfl) rfl)))) (a_nil) rfl) rfl rfl rfl rfl rfl) rfl) (ss_cons (st_expr (s_mutL hK PySem.F.slot_list_append PySem.F.type_list_append mu_append (pv 0) (a_cons (s_dat (s_fz (s_tup (a_cons (s_dat (d_str)) (a_cons (s_dat (s_fz (s_lam (n := 12) (L := lf 12) (hG.lam 12 (by decide)) hTB hcode rfl hmem huniq rfl (by decide +kernel)))) (a_nil) rfl) rfl)))) (a_nil) rfl) rfl rfl rfl rfl rfl) rfl) (ss_cons (st_expr (s_mutL hK PySem.F.slot_list_append PySem.F.type_list_append mu_append (pv 0) (a_cons (s_dat (s_fz (s_tup (a_cons (s_dat (d_str)) (a_cons (s_dat (s_fz (s_lam (n := 13) (L := lf 13) (hG.lam 13 (by decide)) hTB hcode rfl hmem huniq rfl (by decide +kernel)))) (a_nil) rfl) rfl)))) (a_nil) rfl) rfl rfl rfl rfl rfl) rfl) (ss_cons (st_expr (s_mutL hK PySem.F.slot_list_append PySem.F.type_list_append mu_append (pv 0) (a_cons (s_dat (s_fz (s_tup (a_cons (s_dat (d_str)) (a_cons (s_dat (s_fz (s_lam (n := 14) (L := lf 14) (hG.lam 14 (by decide)) hTB hcode rfl hmem huniq rfl (by decide +kernel)))) (a_nil) rfl) rfl)))) (a_nil) rfl) rfl rfl rfl rfl rfl) rfl) (ss_cons (st_expr (s_mutL hK PySem.F.slot_list_append PySem.F.type_list_append mu_append (pv 0) (a_cons (s_dat (s_fz (s_tup (a_cons (s_dat (d_str)) (a_cons (s_dat (s_fz (s_lam (n := 15) (L := lf 15) (hG.lam 15 (by decide)) hTB hcode rfl hmem huniq rfl (by decide +kernel)))) (a_nil) rfl) rfl)))) (a_nil) rfl) rfl rfl rfl rfl rfl) rfl) (ss_cons (st_expr (s_mutL hK PySem.F.slot_list_append PySem.F.type_list_append mu_append (pv 0) (a_cons (s_dat (s_fz (s_tup (a_cons (s_dat (d_str)) (a_cons (s_dat (s_fz (s_lam (n := 16) (L := lf 16) (hG.lam 16 (by decide)) hTB hcode rfl hmem huniq rfl (by decide +kernel)))) (a_nil) rfl) rfl)))) (a_nil) rfl) rfl rfl rfl rfl rfl) rfl) (ss_cons (st_expr (s_mutL hK PySem.F.slot_list_append PySem.F.type_list_append mu_append (pv 0) (a_cons (s_dat (s_fz (s_tup (a_cons (s_dat (d_str)) (a_cons (s_dat (s_fz (s_lam (n := 17) (L := lf 17) (hG.lam 17 (by decide)) hTB hcode rfl hmem huniq rfl (by decide +kernel)))) (a_nil) rfl) rfl)))) (a_nil) rfl) rfl rfl rfl rfl rfl) rfl) (ss_cons (st_expr (s_mutL hK PySem.F.slot_list_append PySem.F.type_list_append mu_append (pv 0) (a_cons (s_dat (s_fz (s_tup (a_cons (s_dat (d_str)) (a_cons (s_dat (s_fz (s_lam (n := 18) (L := lf 18) (hG.lam 18 (by decide)) hTB hcode rfl hmem huniq rfl (by decide +kernel)))) (a_nil) rfl) rfl)))) (a_nil) rfl) rfl rfl rfl rfl rfl) rfl) (ss_cons (st_expr (s_mutL hK PySem.F.slot_list_append PySem.F.type_list_append mu_append (pv 0) (a_cons (s_dat (s_fz (s_tup (a_cons (s_dat (d_str)) (a_cons (s_dat (s_fz (s_lam (n := 19) (L := lf 19) (hG.lam 19 (by decide)) hTB hcode rfl hmem huniq rfl (by decide +kernel)))) (a_nil) rfl) rfl)))) (a_nil) rfl) rfl rfl rfl rfl rfl) rfl) (ss_cons (st_expr (s_mutL hK PySem.F.slot_list_append PySem.F.type_list_append mu_append (pv 0) (a_cons (s_dat (s_fz (s_tup (a_cons (s_dat (d_str)) (a_cons (s_dat (s_fz (s_lam (n := 20) (L := lf 20) (hG.lam 20 (by decide)) hTB hcode rfl hmem huniq rfl (by decide +kernel)))) (a_nil) rfl) rfl)))) (a_nil) rfl) rfl rfl rfl rfl rfl) rfl) (ss_cons (st_expr (s_mutL hK PySem.F.slot_list_append PySem.F.type_list_append mu_append (pv 0) (a_cons (s_dat (s_fz (s_tup (a_cons (s_dat (d_str)) (a_cons (s_dat (s_fz (s_lam (n := 21) (L := lf 21) (hG.lam 21 (by decide)) hTB hcode rfl hmem huniq rfl (by decide +kernel)))) (a_nil) rfl) rfl)))) (a_nil) rfl) rfl rfl rfl rfl rfl) rfl) (ss_cons (st_expr (s_mutL hK PySem.F.slot_list_append PySem.F.type_list_append mu_append (pv 0) (a_cons (s_dat (s_fz (s_tup (a_cons (s_dat (d_str)) (a_cons (s_dat (s_fz (s_lam (n := 22) (L := lf 22) (hG.lam 22 (by decide)) hTB hcode rfl hmem huniq rfl (by decide +kernel)))) (a_nil) rfl) rfl)))) (a_nil) rfl) rfl rfl rfl rfl rfl) rfl) (ss_cons (st_expr (s_mutL hK PySem.F.slot_list_append PySem.F.type_list_append mu_append (pv 0) (a_cons (s_dat (s_fz (s_tup (a_cons (s_dat (d_str)) (a_cons (s_dat (s_fz (s_lam (n := 23) (L := lf 23) (hG.lam 23 (by decide)) hTB hcode rfl hmem huniq rfl (by decide +kernel)))) (a_nil) rfl) rfl)))) (a_nil) rfl) rfl rfl rfl rfl rfl) rfl) (ss_cons (st_expr (s_mutL hK PySem.F.slot_list_append PySem.F.type_list_append mu_append (pv 0) (a_cons (s_dat (s_fz (s_tup (a_cons (s_dat (d_str)) (a_cons (s_dat (s_fz (s_lam (n := 24) (L := lf 24) (hG.lam 24 (by decide)) hTB hcode rfl hmem huniq rfl (by decide +kernel)))) (a_nil) rfl) rfl)))) (a_nil) rfl) rfl rfl rfl rfl rfl) rfl) (ss_cons (st_expr (s_mutL hK PySem.F.slot_list_append PySem.F.type_list_append mu_append (pv 0) (a_cons (s_dat (s_fz (s_tup (a_cons (s_dat (d_str)) (a_cons (s_dat (s_fz (s_lam (n := 25) (L := lf 25) (hG.lam 25 (by decide)) hTB hcode rfl hmem huniq rfl (by decide +kernel)))) (a_nil) rfl) rfl)))) (a_nil) rfl) rfl rfl rfl rfl rfl) rfl) (ss_cons (st_expr (s_mutL hK PySem.F.slot_list_append PySem.F.type_list_append mu_append (pv 0) (a_cons (s_dat (s_fz (s_tup (a_cons (s_dat (d_str)) (a_cons (s_dat (s_fz (s_lam (n := 26) (L := lf 26) (hG.lam 26 (by decide)) hTB hcode rfl hmem huniq rfl (by decide +kernel)))) (a_nil) rfl) rfl)))) (a_nil) rfl) rfl rfl rfl rfl rfl) rfl) (ss_cons (st_expr (s_mutL hK PySem.F.slot_list_append PySem.F.type_list_append mu_append (pv 0) (a_cons (s_dat (s_fz (s_tup (a_cons (s_dat (d_str)) (a_cons (s_dat (s_fz (s_lam (n := 27) (L := lf 27) (hG.lam 27 (by decide)) hTB hcode rfl hmem huniq rfl (by decide +kernel)))) (a_nil) rfl) rfl)))) (a_nil) rfl) rfl rfl rfl rfl rfl) rfl) (ss_cons (st_expr (s_mutL hK PySem.F.slot_list_append PySem.F.type_list_append mu_append (pv 0) (a_cons (s_dat (s_fz (s_tup (a_cons (s_dat (d_str)) (a_cons (s_dat (s_fz (s_lam (n := 28) (L := lf 28) (hG.lam 28 (by decide)) hTB hcode rfl hmem huniq rfl (by decide +kernel)))) (a_nil) rfl) rfl)))) (a_nil) rfl) rfl rfl rfl rfl rfl) rfl) (ss_cons (st_expr (s_mutL hK PySem.F.slot_list_append PySem.F.type_list_append mu_append (pv 0) (a_cons (s_dat (s_fz (s_tup (a_cons (s_dat (d_str)) (a_cons (s_dat (s_fz (s_lam (n := 29) (L := lf 29) (hG.lam 29 (by decide)) hTB hcode rfl hmem huniq rfl (by decide +kernel)))) (a_nil) rfl) rfl)))) (a_nil) rfl) rfl rfl rfl rfl rfl) rfl) (ss_cons (st_expr (s_mutL hK PySem.F.slot_list_append PySem.F.type_list_append mu_append (pv 0) (a_cons (s_dat (s_fz (s_tup (a_cons (s_dat (d_str)) (a_cons (s_dat (s_fz (s_lam (n := 30) (L := lf 30) (hG.lam 30 (by decide)) hTB hcode rfl hmem huniq rfl (by decide +kernel)))) (a_nil) rfl) rfl)))) (a_nil) rfl) rfl rfl rfl rfl rfl) rfl) (ss_cons (st_expr (s_mutL hK PySem.F.slot_list_append PySem.F.type_list_append mu_append (pv 0) (a_cons (s_dat (s_fz (s_tup (a_cons (s_dat (d_str)) (a_cons (s_dat (s_fz (s_lam (n := 31) (L := lf 31) (hG.lam 31 (by decide)) hTB hcode rfl hmem huniq rfl (by decide +kernel)))) (a_nil) rfl) rfl)))) (a_nil) rfl) rfl rfl rfl rfl rfl) rfl) (ss_cons (st_expr (s_mutL hK PySem.F.slot_list_append PySem.F.type_list_append mu_append (pv 0) (a_cons (s_dat (s_fz (s_tup (a_cons (s_dat (d_str)) (a_cons (s_dat (s_fz (s_lam (n := 32) (L := lf 32) (hG.lam 32 (by decide)) hTB hcode rfl hmem huniq rfl (by decide +kernel)))) (a_nil) rfl) rfl)))) (a_nil) rfl) rfl rfl rfl rfl rfl) rfl) (ss_cons (st_expr (s_mutL hK PySem.F.slot_list_append PySem.F.type_list_append mu_append (pv 0) (a_cons (s_dat (s_fz (s_tup (a_cons (s_dat (d_str)) (a_cons (s_dat (s_fz (s_lam (n := 33) (L := lf 33) (hG.lam 33 (by decide)) hTB hcode rfl hmem huniq rfl (by decide +kernel)))) (a_nil) rfl) rfl)))) (a_nil) rfl) rfl rfl rfl rfl rfl) rfl) (ss_cons (st_expr (s_mutL hK PySem.F.slot_list_append PySem.F.type_list_append mu_append (pv 0) (a_cons (s_dat (s_fz (s_tup (a_cons (s_dat (d_str)) (a_cons (s_dat (s_fz (s_lam (n := 34) (L := lf 34) (hG.lam 34 (by decide)) hTB hcode rfl hmem huniq rfl (by decide +kernel)))) (a_nil) rfl) rfl)))) (a_nil) rfl) rfl rfl rfl rfl rfl) rfl) (ss_cons (st_expr (s_mutL hK PySem.F.slot_list_append PySem.F.type_list_append mu_append (pv 0) (a_cons (s_dat (s_fz (s_tup (a_cons (s_dat (d_str)) (a_cons (s_dat (s_fz (s_lam (n := 35) (L := lf 35) (hG.lam 35 (by decide)) hTB hcode rfl hmem huniq rfl (by decide +kernel)))) (a_nil) rfl) rfl)))) (a_nil) rfl) rfl rfl rfl rfl rfl) rfl) (ss_cons (st_expr (s_mutL hK PySem.F.slot_list_append PySem.F.type_list_append mu_append (pv 0) (a_cons (s_dat (s_fz (s_tup (a_cons (s_dat (d_str)) (a_cons (s_dat (s_fz (s_lam (n := 36) (L := lf 36) (hG.lam 36 (by decide)) hTB hcode rfl hmem huniq rfl (by decide +kernel)))) (a_nil) rfl) rfl)))) (a_nil) rfl) rfl rfl rfl rfl rfl) rfl) (ss_cons (st_expr (s_mutL hK PySem.F.slot_list_append PySem.F.type_list_append mu_append (pv 0) (a_cons (s_dat (s_fz (s_tup (a_cons (s_dat (d_str)) (a_cons (s_dat (s_fz (s_lam (n := 37) (L := lf 37) (hG.lam 37 (by decide)) hTB hcode rfl hmem huniq rfl (by decide +kernel)))) (a_nil) rfl) rfl)))) (a_nil) rfl) rfl rfl rfl rfl rfl) rfl) (ss_cons (st_expr (s_mutL hK PySem.F.slot_list_append PySem.F.type_list_append mu_append (pv 0) (a_cons (s_dat (s_fz (s_tup (a_cons (s_dat (d_str)) (a_cons (s_dat (s_fz (s_lam (n := 38) (L := lf 38) (hG.lam 38 (by decide)) hTB hcode rfl hmem huniq rfl (by decide +kernel)))) (a_nil) rfl) rfl)))) (a_nil) rfl) rfl rfl rfl rfl rfl) rfl) (ss_cons (st_expr (s_mutL hK PySem.F.slot_list_append PySem.F.type_list_append mu_append (pv 0) (a_cons (s_dat (s_fz (s_tup (a_cons (s_dat (d_str)) (a_cons (s_dat (s_fz (s_lam (n := 39) (L := lf 39) (hG.lam 39 (by decide)) hTB hcode rfl hmem huniq rfl (by decide +kernel)))) (a_nil) rfl) rfl)))) (a_nil) rfl) rfl rfl rfl rfl rfl) rfl) (ss_cons (st_expr (s_mutL hK PySem.F.slot_list_append PySem.F.type_list_append mu_append (pv 0) (a_cons (s_dat (s_fz (s_tup (a_cons (s_dat (d_str)) (a_cons (s_dat (s_fz (s_lam (n := 40) (L := lf 40) (hG.lam 40 (by decide)) hTB hcode rfl hmem huniq rfl (by decide +kernel)))) (a_nil) rfl) rfl)))) (a_nil) rfl) rfl rfl rfl rfl rfl) rfl) (ss_cons (st_expr (s_mutL hK PySem.F.slot_list_append PySem.F.type_list_append mu_append (pv 0) (a_cons (s_dat (s_fz (s_tup (a_cons (s_dat (d_str)) (a_cons (s_dat (s_fz (s_lam (n := 41) (L := lf 41) (hG.lam 41 (by decide)) hTB hcode rfl hmem huniq rfl (by decide +kernel)))) (a_nil) rfl) rfl)))) (a_nil) rfl) rfl rfl rfl rfl rfl) rfl) (ss_cons (st_expr (s_mutL hK PySem.F.slot_list_append PySem.F.type_list_append mu_append (pv 0) (a_cons (s_dat (s_fz (s_tup (a_cons (s_dat (d_str)) (a_cons (s_dat (s_fz (s_lam (n := 42) (L := lf 42) (hG.lam 42 (by decide)) hTB hcode rfl hmem huniq rfl (by decide +kernel)))) (a_nil) rfl) rfl)))) (a_nil) rfl) rfl rfl rfl rfl rfl) rfl) (ss_cons (st_expr (s_mutL hK PySem.F.slot_list_append PySem.F.type_list_append mu_append (pv 0) (a_cons (s_dat (s_fz (s_tup (a_cons (s_dat (d_str)) (a_cons (s_dat (s_fz (s_lam (n := 43) (L := lf 43) (hG.lam 43 (by decide)) hTB hcode rfl hmem huniq rfl (by decide +kernel)))) (a_nil) rfl) rfl)))) (a_nil) rfl) rfl rfl rfl rfl rfl) rfl) (ss_cons (st_expr (s_mutL hK PySem.F.slot_list_append PySem.F.type_list_append mu_append (pv 0) (a_cons (s_dat (s_fz (s_tup (a_cons (s_dat (d_str)) (a_cons (s_dat (s_fz (s_lam (n := 44) (L := lf 44) (hG.lam 44 (by decide)) hTB hcode rfl hmem huniq rfl (by decide +kernel)))) (a_nil) rfl) rfl)))) (a_nil) rfl) rfl rfl rfl rfl rfl) rfl) (ss_cons (st_expr (s_mutL hK PySem.F.slot_list_append PySem.F.type_list_append mu_append (pv 0) (a_cons (s_dat (s_fz (s_tup (a_cons (s_dat (d_str)) (a_cons (s_dat (s_fz (s_lam (n := 45) (L := lf 45) (hG.lam 45 (by decide)) hTB hcode rfl hmem huniq rfl (by decide +kernel)))) (a_nil) rfl) rfl)))) (a_nil) rfl) rfl rfl rfl rfl rfl) rfl) (ss_cons (st_expr (s_mutL hK PySem.F.slot_list_append PySem.F.type_list_append mu_append (pv 0) (a_cons (s_dat (s_fz (s_tup (a_cons (s_dat (d_str)) (a_cons (s_dat (s_fz (s_lam (n := 46) (L := lf 46) (hG.lam 46 (by decide)) hTB hcode rfl hmem huniq rfl (by decide +kernel)))) (a_nil) rfl) rfl)))) (a_nil) rfl) rfl rfl rfl rfl rfl) rfl) (ss_cons (st_expr (s_mutL hK PySem.F.slot_list_append PySem.F.type_list_append mu_append (pv 0) (a_cons (s_dat (s_fz (s_tup (a_cons (s_dat (d_str)) (a_cons (s_dat (s_fz (s_lam (n := 47) (L := lf 47) (hG.lam 47 (by decide)) hTB hcode rfl hmem huniq rfl (by decide +kernel)))) (a_nil) rfl) rfl)))) (a_nil) rfl) rfl rfl rfl rfl rfl) rfl) (ss_cons (st_expr (s_mutL hK PySem.F.slot_list_append PySem.F.type_list_append mu_append (pv 0) (a_cons (s_dat (s_fz (s_tup (a_cons (s_dat (d_str)) (a_cons (s_dat (s_fz (s_lam (n := 48) (L := lf 48) (hG.lam 48 (by decide)) hTB hcode rfl hmem huniq rfl (by decide +kernel)))) (a_nil) rfl) rfl)))) (a_nil) rfl) rfl rfl rfl rfl rfl) rfl) (ss_cons (st_ret (s_vMove (lk := []) (pv 0))) (ss_nil)))))))))))))))))))))))))))))))))))))))))))))))))))
/-! _law_take -/
abbrev st_law_take : Stmt := top 53
def b_law_take : List Sl → Out SF := mSeq (mIf (mTst (m2 gtD (mDat (mFz (m2 idxD (oVar 0) (mDat (mC (.int 0)))))) (mDat (mC (.int 0))))) (mSeq (mSet [0, 1] 2 (m2 modD (mDat (mFz (mN intD (aCons (mDat (mFz (m2 idxD (oVar 0) (mDat (mC (.int 0)))))) (aNil))))) (oVar 1))) (mSeq (mStore 0 (mFz (m2 fdivD (mDat (mFz (m2 idxD (oVar 0) (mDat (mC (.int 0)))))) (oVar 1))) (mDat (mC (.int 0)))) (mSeq (mRet (vMove [0, 1] 2)) (mSkip)))) (mSkip)) (mSeq (mStore 0 (mFz (m2 addD (mDat (mFz (m2 idxD (oVar 0) (mDat (mC (.int 2)))))) (mDat (mC (.int 1))))) (mDat (mC (.int 2)))) (mSeq (mSet [0, 1] 3 (m2 idxD (mDat (mFz (mLst (aCons (mDat (mC (.int 2147483647))) (aCons (mDat (mC (.int 2147483629))) (aCons (mDat (mC (.int 2147483587))) (aCons (mDat (mC (.int 2147483579))) (aCons (mDat (mC (.int 2147483563))) (aNil))))))))) (mDat (mFz (m2 modD (mDat (mFz (mN intD (aCons (mDat (mFz (m2 idxD (oVar 0) (mDat (mC (.int 2)))))) (aNil))))) (mDat (mC (.int 5)))))))) (mSeq (mSet [0, 1] 4 (m2 modD (mDat (mFz (mN intD (aCons (mDat (mFz (m2 powD (mDat (mFz (mN intD (aCons (mDat (mFz (m2 addD (mDat (mFz (m2 addD (mDat (mFz (m2 idxD (oVar 0) (mDat (mC (.int 1)))))) (mDat (mFz (m2 mulD (mDat (mFz (m2 mulD (mDat (mC (.int 110249))) (mDat (mFz (m2 idxD (oVar 0) (mDat (mC (.int 2))))))))) (mDat (mFz (m2 idxD (oVar 0) (mDat (mC (.int 2)))))))))))) (mDat (mC (.int 3645)))))) (aNil))))) (mDat (mC (.int 3)))))) (aNil))))) (oVar 3))) (mSeq (mSet [0, 1] 4 (m2 modD (mDat (mFz (mN intD (aCons (mDat (mFz (m2 mulD (oVar 4) (mDat (mFz (m2 addD (mDat (mFz (m2 modD (mDat (mFz (mN intD (aCons (oVar 4) (aNil))))) (mDat (mC (.int 21307)))))) (mDat (mFz (m2 mulD (mDat (mC (.int 2283))) (mDat (mFz (m2 idxD (oVar 0) (mDat (mC (.int 2))))))))))))))) (aNil))))) (mDat (mC (.int 2305843009213693907))))) (mSeq (mRet (m2 modD (mDat (mFz (mN intD (aCons (mDat (mFz (m2 fdivD (oVar 4) (mDat (mC (.int 5425)))))) (aNil))))) (oVar 1))) (mSkip))))))
def e_law_take : List Sl → Out EV := runF 5 [0, 1] 2 b_law_take
theorem sc_law_take : FnScope ["pot", "upto", "digit", "prime", "blend"] ["pot", "upto"] (defScope st_law_take) := ⟨rfl, rfl, rfl, by decide +kernel, rfl, by decide +kernel, by decide +kernel⟩
theorem h_law_take (hX : Fx P K mg base T) : Has P w K mg base (gl K T) "_law_take" 5 2 e_law_take := by
  have hS := sc_law_take
  have hK : (gl K T).K = K := rfl
  have hG := glOk hX
  obtain ⟨fd, F⟩ := hX.fn "_law_take" 53 (by decide)
  refine has_of (N := ["pot", "upto", "digit", "prime", "blend"]) (ps := ["pot", "upto"]) (lk := [0, 1]) (k := 4) (m := b_law_take) F (hX.gf "_law_take" 53 (by decide)) hS (fun _ _ _ _ _ _ us hl => match us, hl with | [_, _], _ => rfl) fun cdv A outer s H E hcd hr tk hp => ?_
  exact ss_cons (st_if (p_cmp (op_gtD) (s_dat (s_fz (s_ix hK hr.r.un1 (s_oVar (pv 0)) (s_dat (d_int)) (fun _ _ => rfl)))) (s_dat (d_int)) rfl) (ss_cons (st_set (s_op op_modD (s_dat (s_fz (s_ty (c_int) rfl (hX.fr _ (by decide)) rfl (a_cons (s_dat (s_fz (s_ix hK hr.r.un1 (s_oVar (pv 0)) (s_dat (d_int)) (fun _ _ => rfl)))) (a_nil) rfl) (by decide) (by decide) rfl rfl))) (s_oVar (pv 1))) (fun te h => ps_set hS.nd rfl (by first | exact .inl rfl | exact .inr rfl) h)) (ss_cons (st_store hr.r.un1 (pv 0) (s_fz (s_op op_fdivD (s_dat (s_fz (s_ix hK hr.r.un1 (s_oVar (pv 0)) (s_dat (d_int)) (fun _ _ => rfl)))) (s_oVar (pv 1)))) (s_dat (d_int)) rfl rfl rfl (fun to ti h1 h2 => pg_sub h1 h2 (set_any hr.r.un1))) (ss_cons (st_ret (s_vMove (lk := [0, 1]) (pv 2))) (ss_nil)))) (ss_nil)) (ss_cons (st_store hr.r.un1 (pv 0) (s_fz (s_op op_addD (s_dat (s_fz (s_ix hK hr.r.un1 (s_oVar (pv 0)) (s_dat (d_int)) (fun _ _ => rfl)))) (s_dat (d_int)))) (s_dat (d_int)) rfl rfl rfl (fun to ti h1 h2 => pg_sub h1 h2 (set_any hr.r.un1))) (ss_cons (st_set (s_ix hK hr.r.un1 (s_dat (s_fz (s_lst (a_cons (s_dat (d_int)) (a_cons (s_dat (d_int)) (a_cons (s_dat (d_int)) (a_cons (s_dat (d_int)) (a_cons (s_dat (d_int)) (a_nil) rfl) rfl) rfl) rfl) rfl)))) (s_dat (s_fz (s_op op_modD (s_dat (s_fz (s_ty (c_int) rfl (hX.fr _ (by decide)) rfl (a_cons (s_dat (s_fz (s_ix hK hr.r.un1 (s_oVar (pv 0)) (s_dat (d_int)) (fun _ _ => rfl)))) (a_nil) rfl) (by decide) (by decide) rfl rfl))) (s_dat (d_int))))) (fun _ _ => rfl)) (fun te h => ps_set hS.nd rfl (by first | exact .inl rfl | exact .inr rfl) h)) (ss_cons (st_set (s_op op_modD (s_dat (s_fz (s_ty (c_int) rfl (hX.fr _ (by decide)) rfl (a_cons (s_dat (s_fz (s_op op_powD (s_dat (s_fz (s_ty (c_int) rfl (hX.fr _ (by decide)) rfl (a_cons (s_dat (s_fz (s_op op_addD (s_dat (s_fz (s_op op_addD (s_dat (s_fz (s_ix hK hr.r.un1 (s_oVar (pv 0)) (s_dat (d_int)) (fun _ _ => rfl)))) (s_dat (s_fz (s_op op_mulD (s_dat (s_fz (s_op op_mulD (s_dat (d_int)) (s_dat (s_fz (s_ix hK hr.r.un1 (s_oVar (pv 0)) (s_dat (d_int)) (fun _ _ => rfl))))))) (s_dat (s_fz (s_ix hK hr.r.un1 (s_oVar (pv 0)) (s_dat (d_int)) (fun _ _ => rfl)))))))))) (s_dat (d_int))))) (a_nil) rfl) (by decide) (by decide) rfl rfl))) (s_dat (d_int))))) (a_nil) rfl) (by decide) (by decide) rfl rfl))) (s_oVar (pv 3))) (fun te h => ps_set hS.nd rfl (by first | exact .inl rfl | exact .inr rfl) h)) (ss_cons (st_set (s_op op_modD (s_dat (s_fz (s_ty (c_int) rfl (hX.fr _ (by decide)) rfl (a_cons (s_dat (s_fz (s_op op_mulD (s_oVar (pv 4)) (s_dat (s_fz (s_op op_addD (s_dat (s_fz (s_op op_modD (s_dat (s_fz (s_ty (c_int) rfl (hX.fr _ (by decide)) rfl (a_cons (s_oVar (pv 4)) (a_nil) rfl) (by decide) (by decide) rfl rfl))) (s_dat (d_int))))) (s_dat (s_fz (s_op op_mulD (s_dat (d_int)) (s_dat (s_fz (s_ix hK hr.r.un1 (s_oVar (pv 0)) (s_dat (d_int)) (fun _ _ => rfl))))))))))))) (a_nil) rfl) (by decide) (by decide) rfl rfl))) (s_dat (d_int))) (fun te h => ps_set hS.nd rfl (by first | exact .inl rfl | exact .inr rfl) h)) (ss_cons (st_ret (s_op op_modD (s_dat (s_fz (s_ty (c_int) rfl (hX.fr _ (by decide)) rfl (a_cons (s_dat (s_fz (s_op op_fdivD (s_oVar (pv 4)) (s_dat (d_int))))) (a_nil) rfl) (by decide) (by decide) rfl rfl))) (s_oVar (pv 1)))) (ss_nil))))))
/-! _law_of -/
abbrev st_law_of : Stmt := top 54
def b_law_of : List Sl → Out SF := mSeq (mRet (m2 idxD (oVar 1) (mDat (mFz (mCall e_law_take (aCons (oVar 0) (aCons (mDat (mFz (mN lenD (aCons (oVar 1) (aNil))))) (aNil)))))))) (mSkip)
def e_law_of : List Sl → Out EV := runF 2 [0, 1] 2 b_law_of
theorem sc_law_of : FnScope ["pot", "some"] ["pot", "some"] (defScope st_law_of) := ⟨rfl, rfl, rfl, by decide +kernel, rfl, by decide +kernel, by decide +kernel⟩
theorem h_law_of (hX : Fx P K mg base T) (h_law_take : Has P w K mg base (gl K T) "_law_take" 5 2 e_law_take) : Has P w K mg base (gl K T) "_law_of" 6 2 e_law_of := by
  have hS := sc_law_of
  have hK : (gl K T).K = K := rfl
  have hG := glOk hX
  obtain ⟨fd, F⟩ := hX.fn "_law_of" 54 (by decide)
  refine has_of (N := ["pot", "some"]) (ps := ["pot", "some"]) (lk := [0, 1]) (k := 5) (m := b_law_of) F (hX.gf "_law_of" 54 (by decide)) hS (fun _ _ _ _ _ _ us hl => match us, hl with | [_, _], _ => rfl) fun cdv A outer s H E hcd hr tk hp => ?_
  exact ss_cons (st_ret (s_ix hK hr.r.un1 (s_oVar (pv 1)) (s_dat (s_fz (s_callF (h_law_take.mono (by decide)) hr tk rfl (a_cons (s_oVar (pv 0)) (a_cons (s_dat (s_fz (s_blt (c_len hK) rfl (hX.fr _ (by decide)) rfl (a_cons (s_oVar (pv 1)) (a_nil) rfl) (by decide) (by decide) rfl rfl))) (a_nil) rfl) rfl) (by decide) rfl rfl))) (fun _ _ => rfl))) (ss_nil)
/-! _law_odd -/
abbrev st_law_odd : Stmt := top 56
def b_law_odd : List Sl → Out SF := mSeq (mSet [0] 1 (mLst (aCons (mDat (mC .non)) (aCons (mDat (mC (.bl true))) (aCons (mDat (mC (.bl false))) (aCons (mDat (mC (.int 0))) (aCons (mDat (mC (.int 1))) (aCons (mDat (mFz (m1 negD (mDat (mC (.int 1)))))) (aCons (mDat (mC (.int 2))) (aCons (mDat (mC (.int 9))) (aCons (mDat (mC (.int 10))) (aCons (mDat (mFz (m2 powD (mDat (mC (.int 10))) (mDat (mC (.int 11)))))) (aCons (mDat (mC (.str ""))) (aCons (mDat (mC (.str "a"))) (aCons (mDat (mFz (mTup (aNil)))) (aCons (mDat (mFz (mLst (aNil)))) (aCons (mDat (mFz (mD0))) (aCons (mDat (mFz (mTup (aCons (mDat (mC (.int 0))) (aNil))))) (aCons (mDat (mFz (mTup (aCons (mDat (mC (.str "a"))) (aNil))))) (aCons (mDat (mFz (mLst (aCons (mDat (mC (.str "a"))) (aNil))))) (aNil))))))))))))))))))))) (mSeq (mExpr (mMutL false fExtend 1 (aCons (mDat (mFz (mLst (aCons (mDat (mFz (mTup (aCons (mDat (mC (.str "a"))) (aCons (mDat (mC (.str "b"))) (aNil)))))) (aCons (mDat (mFz (mTup (aCons (mDat (mFz (mTup (aNil)))) (aNil))))) (aCons (mDat (mFz (mTup (aCons (mDat (mFz (mTup (aCons (mDat (mC (.str "a"))) (aNil))))) (aNil))))) (aCons (mDat (mFz (mTup (aCons (mDat (mC (.int 1))) (aCons (mDat (mFz (mTup (aNil)))) (aCons (mDat (mFz (mTup (aNil)))) (aNil))))))) (aCons (mDat (mFz (mTup (aCons (mDat (mC (.bl true))) (aCons (mDat (mC (.int 1))) (aNil)))))) (aCons (mDat (mFz (mTup (aCons (mDat (mC (.str "all"))) (aCons (mDat (mFz (mTup (aNil)))) (aNil)))))) (aCons (mDat (mFz (mTup (aCons (mDat (mC (.str "lot"))) (aCons (mDat (mFz (mTup (aNil)))) (aNil)))))) (aCons (mDat (mFz (mTup (aCons (mDat (mC (.str "rests"))) (aCons (mDat (mFz (mTup (aNil)))) (aNil)))))) (aNil)))))))))))) (aNil)))) (mSeq (mRet (mCall e_law_of (aCons (oVar 0) (aCons (mDat (mFz (m2 addD (oVar 1) (mDat (mFz (mLst (aCons (mDat (mFz (mTup (aCons (mDat (mC (.str "plan"))) (aCons (mDat (mFz (mTup (aCons (mDat (mC (.str "a"))) (aNil))))) (aNil)))))) (aNil)))))))) (aNil))))) (mSkip)))
def e_law_odd : List Sl → Out EV := runF 2 [0] 1 b_law_odd
theorem sc_law_odd : FnScope ["pot", "some"] ["pot"] (defScope st_law_odd) := ⟨rfl, rfl, rfl, by decide +kernel, rfl, by decide +kernel, by decide +kernel⟩
theorem h_law_odd (hX : Fx P K mg base T) (h_law_of : Has P w K mg base (gl K T) "_law_of" 6 2 e_law_of) : Has P w K mg base (gl K T) "_law_odd" 7 1 e_law_odd := by
  have hS := sc_law_odd
  have hK : (gl K T).K = K := rfl
  have hG := glOk hX
  obtain ⟨fd, F⟩ := hX.fn "_law_odd" 56 (by decide)
  refine has_of (N := ["pot", "some"]) (ps := ["pot"]) (lk := [0]) (k := 6) (m := b_law_odd) F (hX.gf "_law_odd" 56 (by decide)) hS (fun _ _ _ _ _ _ us hl => match us, hl with | [_], _ => rfl) fun cdv A outer s H E hcd hr tk hp => ?_
  exact ss_cons (st_set (s_lst (a_cons (s_dat (d_non)) (a_cons (s_dat (d_bl)) (a_cons (s_dat (d_bl)) (a_cons (s_dat (d_int)) (a_cons (s_dat (d_int)) (a_cons (s_dat (s_fz (s_un un_negD (s_dat (d_int))))) (a_cons (s_dat (d_int)) (a_cons (s_dat (d_int)) (a_cons (s_dat (d_int)) (a_cons (s_dat (s_fz (s_op op_powD (s_dat (d_int)) (s_dat (d_int))))) (a_cons (s_dat (d_str)) (a_cons (s_dat (d_str)) (a_cons (s_dat (s_fz (s_tup (a_nil)))) (a_cons (s_dat (s_fz (s_lst (a_nil)))) (a_cons (s_dat (s_fz (s_dct0))) (a_cons (s_dat (s_fz (s_tup (a_cons (s_dat (d_int)) (a_nil) rfl)))) (a_cons (s_dat (s_fz (s_tup (a_cons (s_dat (d_str)) (a_nil) rfl)))) (a_cons (s_dat (s_fz (s_lst (a_cons (s_dat (d_str)) (a_nil) rfl)))) (a_nil) rfl) rfl) rfl) rfl) rfl) rfl) rfl) rfl) rfl) rfl) rfl) rfl) rfl) rfl) rfl) rfl) rfl) rfl)) (fun te h => ps_set hS.nd rfl (by first | exact .inl rfl | exact .inr rfl) h)) (ss_cons (st_expr (s_mutL hK PySem.F.slot_list_extend PySem.F.type_list_extend mu_extend (pv 1) (a_cons (s_dat (s_fz (s_lst (a_cons (s_dat (s_fz (s_tup (a_cons (s_dat (d_str)) (a_cons (s_dat (d_str)) (a_nil) rfl) rfl)))) (a_cons (s_dat (s_fz (s_tup (a_cons (s_dat (s_fz (s_tup (a_nil)))) (a_nil) rfl)))) (a_cons (s_dat (s_fz (s_tup (a_cons (s_dat (s_fz (s_tup (a_cons (s_dat (d_str)) (a_nil) rfl)))) (a_nil) rfl)))) (a_cons (s_dat (s_fz (s_tup (a_cons (s_dat (d_int)) (a_cons (s_dat (s_fz (s_tup (a_nil)))) (a_cons (s_dat (s_fz (s_tup (a_nil)))) (a_nil) rfl) rfl) rfl)))) (a_cons (s_dat (s_fz (s_tup (a_cons (s_dat (d_bl)) (a_cons (s_dat (d_int)) (a_nil) rfl) rfl)))) (a_cons (s_dat (s_fz (s_tup (a_cons (s_dat (d_str)) (a_cons (s_dat (s_fz (s_tup (a_nil)))) (a_nil) rfl) rfl)))) (a_cons (s_dat (s_fz (s_tup (a_cons (s_dat (d_str)) (a_cons (s_dat (s_fz (s_tup (a_nil)))) (a_nil) rfl) rfl)))) (a_cons (s_dat (s_fz (s_tup (a_cons (s_dat (d_str)) (a_cons (s_dat (s_fz (s_tup (a_nil)))) (a_nil) rfl) rfl)))) (a_nil) rfl) rfl) rfl) rfl) rfl) rfl) rfl) rfl)))) (a_nil) rfl) rfl rfl rfl rfl rfl) rfl) (ss_cons (st_ret (s_callF (h_law_of.mono (by decide)) hr tk rfl (a_cons (s_oVar (pv 0)) (a_cons (s_dat (s_fz (s_op op_addD (s_oVar (pv 1)) (s_dat (s_fz (s_lst (a_cons (s_dat (s_fz (s_tup (a_cons (s_dat (d_str)) (a_cons (s_dat (s_fz (s_tup (a_cons (s_dat (d_str)) (a_nil) rfl)))) (a_nil) rfl) rfl)))) (a_nil) rfl))))))) (a_nil) rfl) rfl) (by decide) rfl rfl)) (ss_nil)))
/-! _law_marks -/
abbrev st_law_marks : Stmt := top 58
def b_law_marks : List Sl → Out SF := mSeq (mSet [0] 1 (mD0)) (mSeq (mStore 1 (mFz (m1 (isaD isaT (.own 1)) (oVar 0))) (mDat (mC (.str "BadArrival")))) (mSeq (mStore 1 (mFz (m1 (isaD isaT (.own 2)) (oVar 0))) (mDat (mC (.str "BadBounds")))) (mSeq (mStore 1 (mFz (m1 (isaD isaT (.own 3)) (oVar 0))) (mDat (mC (.str "BadDays")))) (mSeq (mStore 1 (mFz (m1 (isaD isaT (.own 4)) (oVar 0))) (mDat (mC (.str "BadDeed")))) (mSeq (mStore 1 (mFz (m1 (isaD isaT (.own 5)) (oVar 0))) (mDat (mC (.str "BadEvent")))) (mSeq (mStore 1 (mFz (m1 (isaD isaT (.own 6)) (oVar 0))) (mDat (mC (.str "BadForest")))) (mSeq (mStore 1 (mFz (m1 (isaD isaT (.own 7)) (oVar 0))) (mDat (mC (.str "BadHall")))) (mSeq (mStore 1 (mFz (m1 (isaD isaT (.own 8)) (oVar 0))) (mDat (mC (.str "BadJournal")))) (mSeq (mStore 1 (mFz (m1 (isaD isaT (.own 9)) (oVar 0))) (mDat (mC (.str "BadKeeping")))) (mSeq (mStore 1 (mFz (m1 (isaD isaT (.own 10)) (oVar 0))) (mDat (mC (.str "BadLetters")))) (mSeq (mStore 1 (mFz (m1 (isaD isaT (.own 11)) (oVar 0))) (mDat (mC (.str "BadLine")))) (mSeq (mStore 1 (mFz (m1 (isaD isaT (.own 12)) (oVar 0))) (mDat (mC (.str "BadLot")))) (mSeq (mStore 1 (mFz (m1 (isaD isaT (.own 13)) (oVar 0))) (mDat (mC (.str "BadMeets")))) (mSeq (mStore 1 (mFz (m1 (isaD isaT (.own 14)) (oVar 0))) (mDat (mC (.str "BadMoment")))) (mSeq (mStore 1 (mFz (m1 (isaD isaT (.own 15)) (oVar 0))) (mDat (mC (.str "BadNote")))) (mSeq (mStore 1 (mFz (m1 (isaD isaT (.own 16)) (oVar 0))) (mDat (mC (.str "BadNotes")))) (mSeq (mStore 1 (mFz (m1 (isaD isaT (.own 17)) (oVar 0))) (mDat (mC (.str "BadNumber")))) (mSeq (mStore 1 (mFz (m1 (isaD isaT (.own 18)) (oVar 0))) (mDat (mC (.str "BadNumbers")))) (mSeq (mStore 1 (mFz (m1 (isaD isaT (.own 19)) (oVar 0))) (mDat (mC (.str "BadPlan")))) (mSeq (mStore 1 (mFz (m1 (isaD isaT (.own 20)) (oVar 0))) (mDat (mC (.str "BadPledge")))) (mSeq (mStore 1 (mFz (m1 (isaD isaT (.own 21)) (oVar 0))) (mDat (mC (.str "BadQueues")))) (mSeq (mStore 1 (mFz (m1 (isaD isaT (.own 22)) (oVar 0))) (mDat (mC (.str "BadRow")))) (mSeq (mStore 1 (mFz (m1 (isaD isaT (.own 23)) (oVar 0))) (mDat (mC (.str "BadSaying")))) (mSeq (mStore 1 (mFz (m1 (isaD isaT (.own 24)) (oVar 0))) (mDat (mC (.str "BadStatement")))) (mSeq (mStore 1 (mFz (m1 (isaD isaT (.own 25)) (oVar 0))) (mDat (mC (.str "BadTable")))) (mSeq (mStore 1 (mFz (m1 (isaD isaT (.own 48)) (oVar 0))) (mDat (mC (.str "BadTrain")))) (mSeq (mStore 1 (mFz (m1 (isaD isaT (.own 26)) (oVar 0))) (mDat (mC (.str "BadTree")))) (mSeq (mStore 1 (mFz (m1 (isaD isaT (.own 27)) (oVar 0))) (mDat (mC (.str "BadWeights")))) (mSeq (mStore 1 (mFz (m1 (isaD isaT (.own 28)) (oVar 0))) (mDat (mC (.str "CanBe")))) (mSeq (mStore 1 (mFz (m1 (isaD isaT (.own 29)) (oVar 0))) (mDat (mC (.str "CanNot")))) (mSeq (mStore 1 (mFz (m1 (isaD isaT (.own 30)) (oVar 0))) (mDat (mC (.str "Claws")))) (mSeq (mStore 1 (mFz (m1 (isaD isaT (.own 31)) (oVar 0))) (mDat (mC (.str "Known")))) (mSeq (mStore 1 (mFz (m1 (isaD isaT (.own 32)) (oVar 0))) (mDat (mC (.str "Late")))) (mSeq (mStore 1 (mFz (m1 (isaD isaT (.own 33)) (oVar 0))) (mDat (mC (.str "Met")))) (mSeq (mStore 1 (mFz (m1 (isaD isaT (.own 34)) (oVar 0))) (mDat (mC (.str "NoGuest")))) (mSeq (mStore 1 (mFz (m1 (isaD isaT (.own 35)) (oVar 0))) (mDat (mC (.str "NoHall")))) (mSeq (mStore 1 (mFz (m1 (isaD isaT (.own 36)) (oVar 0))) (mDat (mC (.str "NoPlan")))) (mSeq (mStore 1 (mFz (m1 (isaD isaT (.own 37)) (oVar 0))) (mDat (mC (.str "NoTrial")))) (mSeq (mStore 1 (mFz (m1 (isaD isaT (.own 38)) (oVar 0))) (mDat (mC (.str "NotLayered")))) (mSeq (mStore 1 (mFz (m1 (isaD isaT (.own 39)) (oVar 0))) (mDat (mC (.str "NotSo")))) (mSeq (mStore 1 (mFz (m1 (isaD isaT (.own 40)) (oVar 0))) (mDat (mC (.str "NotSure")))) (mSeq (mStore 1 (mFz (m1 (isaD isaT (.own 41)) (oVar 0))) (mDat (mC (.str "NothingToRedo")))) (mSeq (mStore 1 (mFz (m1 (isaD isaT (.own 42)) (oVar 0))) (mDat (mC (.str "NothingToUndo")))) (mSeq (mStore 1 (mFz (m1 (isaD isaT (.own 43)) (oVar 0))) (mDat (mC (.str "Rings")))) (mSeq (mStore 1 (mFz (m1 (isaD isaT (.own 44)) (oVar 0))) (mDat (mC (.str "Same")))) (mSeq (mStore 1 (mFz (m1 (isaD isaT (.own 49)) (oVar 0))) (mDat (mC (.str "TooFew")))) (mSeq (mStore 1 (mFz (m1 (isaD isaT (.own 45)) (oVar 0))) (mDat (mC (.str "TooMany")))) (mSeq (mStore 1 (mFz (m1 (isaD isaT (.own 46)) (oVar 0))) (mDat (mC (.str "TooTight")))) (mSeq (mStore 1 (mFz (m1 (isaD isaT (.own 47)) (oVar 0))) (mDat (mC (.str "Unlike")))) (mSeq (mRet (vMove [0] 1)) (mSkip)))))))))))))))))))))))))))))))))))))))))))))))))))
def e_law_marks : List Sl → Out EV := runF 2 [0] 1 b_law_marks
theorem sc_law_marks : FnScope ["error", "found"] ["error"] (defScope st_law_marks) := ⟨rfl, rfl, rfl, by decide +kernel, rfl, by decide +kernel, by decide +kernel⟩
theorem h_law_marks (hX : Fx P K mg base T) : Has P w K mg base (gl K T) "_law_marks" 5 1 e_law_marks := by
  have hS := sc_law_marks
  have hK : (gl K T).K = K := rfl
  have hG := glOk hX
  obtain ⟨fd, F⟩ := hX.fn "_law_marks" 58 (by decide)
  refine has_of (N := ["error", "found"]) (ps := ["error"]) (lk := [0]) (k := 4) (m := b_law_marks) F (hX.gf "_law_marks" 58 (by decide)) hS (fun _ _ _ _ _ _ us hl => match us, hl with | [_], _ => rfl) fun cdv A outer s H E hcd hr tk hp => ?_
  exact ss_cons (st_set (s_dct0) (fun te h => ps_set hS.nd rfl (by first | exact .inl rfl | exact .inr rfl) h)) (ss_cons (st_store hr.r.un1 (pv 1) (s_fz (s_isi hG.isa hK (s_oVar (pv 0)) (pe_glob (v := .ref (errC K 1)) rfl (hX.ge 1 (by decide)) rfl) (hG.clsv 1 (by decide)) rfl (hX.fr _ (by decide)) rfl rfl rfl)) (s_dat (d_str)) rfl rfl rfl (fun to ti h1 h2 => pg_sub h1 h2 (set_any hr.r.un1))) (ss_cons (st_store hr.r.un1 (pv 1) (s_fz (s_isi hG.isa hK (s_oVar (pv 0)) (pe_glob (v := .ref (errC K 2)) rfl (hX.ge 2 (by decide)) rfl) (hG.clsv 2 (by decide)) rfl (hX.fr _ (by decide)) rfl rfl rfl)) (s_dat (d_str)) rfl rfl rfl (fun to ti h1 h2 => pg_sub h1 h2 (set_any hr.r.un1))) (ss_cons (st_store hr.r.un1 (pv 1) (s_fz (s_isi hG.isa hK (s_oVar (pv 0)) (pe_glob (v := .ref (errC K 3)) rfl (hX.ge 3 (by decide)) rfl) (hG.clsv 3 (by decide)) rfl (hX.fr _ (by decide)) rfl rfl rfl)) (s_dat (d_str)) rfl rfl rfl (fun to ti h1 h2 => pg_sub h1 h2 (set_any hr.r.un1))) (ss_cons (st_store hr.r.un1 (pv 1) (s_fz (s_isi hG.isa hK (s_oVar (pv 0)) (pe_glob (v := .ref (errC K 4)) rfl (hX.ge 4 (by decide)) rfl) (hG.clsv 4 (by decide)) rfl (hX.fr _ (by decide)) rfl rfl rfl)) (s_dat (d_str)) rfl rfl rfl (fun to ti h1 h2 => pg_sub h1 h2 (set_any hr.r.un1))) (ss_cons (st_store hr.r.un1 (pv 1) (s_fz (s_isi hG.isa hK (s_oVar (pv 0)) (pe_glob (v := .ref (errC K 5)) rfl (hX.ge 5 (by decide)) rfl) (hG.clsv 5 (by decide)) rfl (hX.fr _ (by decide)) rfl rfl rfl)) (s_dat (d_str)) rfl rfl rfl (fun to ti h1 h2 => pg_sub h1 h2 (set_any hr.r.un1))) (ss_cons (st_store hr.r.un1 (pv 1) (s_fz (s_isi hG.isa hK (s_oVar (pv 0)) (pe_glob (v := .ref (errC K 6)) rfl (hX.ge 6 (by decide)) rfl) (hG.clsv 6 (by decide)) rfl (hX.fr _ (by decide)) rfl rfl rfl)) (s_dat (d_str)) rfl rfl rfl (fun to ti h1 h2 => pg_sub h1 h2 (set_any hr.r.un1))) (ss_cons (st_store hr.r.un1 (pv 1) (s_fz (s_isi hG.isa hK (s_oVar (pv 0)) (pe_glob (v := .ref (errC K 7)) rfl (hX.ge 7 (by decide)) rfl) (hG.clsv 7 (by decide)) rfl (hX.fr _ (by decide)) rfl rfl rfl)) (s_dat (d_str)) rfl rfl rfl (fun to ti h1 h2 => pg_sub h1 h2 (set_any hr.r.un1))) (ss_cons (st_store hr.r.un1 (pv 1) (s_fz (s_isi hG.isa hK (s_oVar (pv 0)) (pe_glob (v := .ref (errC K 8)) rfl (hX.ge 8 (by decide)) rfl) (hG.clsv 8 (by decide)) rfl (hX.fr _ (by decide)) rfl rfl rfl)) (s_dat (d_str)) rfl rfl rfl (fun to ti h1 h2 => pg_sub h1 h2 (set_any hr.r.un1))) (ss_cons (st_store hr.r.un1 (pv 1) (s_fz (s_isi hG.isa hK (s_oVar (pv 0)) (pe_glob (v := .ref (errC K 9)) rfl (hX.ge 9 (by decide)) rfl) (hG.clsv 9 (by decide)) rfl (hX.fr _ (by decide)) rfl rfl rfl)) (s_dat (d_str)) rfl rfl rfl (fun to ti h1 h2 => pg_sub h1 h2 (set_any hr.r.un1))) (ss_cons (st_store hr.r.un1 (pv 1) (s_fz (s_isi hG.isa hK (s_oVar (pv 0)) (pe_glob (v := .ref (errC K 10)) rfl (hX.ge 10 (by decide)) rfl) (hG.clsv 10 (by decide)) rfl (hX.fr _ (by decide)) rfl rfl rfl)) (s_dat (d_str)) rfl rfl rfl (fun to ti h1 h2 => pg_sub h1 h2 (set_any hr.r.un1))) (ss_cons (st_store hr.r.un1 (pv 1) (s_fz (s_isi hG.isa hK (s_oVar (pv 0)) (pe_glob (v := .ref (errC K 11)) rfl (hX.ge 11 (by decide)) rfl) (hG.clsv 11 (by decide)) rfl (hX.fr _ (by decide)) rfl rfl rfl)) (s_dat (d_str)) rfl rfl rfl (fun to ti h1 h2 => pg_sub h1 h2 (set_any hr.r.un1))) (ss_cons (st_store hr.r.un1 (pv 1) (s_fz (s_isi hG.isa hK (s_oVar (pv 0)) (pe_glob (v := .ref (errC K 12)) rfl (hX.ge 12 (by decide)) rfl) (hG.clsv 12 (by decide)) rfl (hX.fr _ (by decide)) rfl rfl rfl)) (s_dat (d_str)) rfl rfl rfl (fun to ti h1 h2 => pg_sub h1 h2 (set_any hr.r.un1))) (ss_cons (st_store hr.r.un1 (pv 1) (s_fz (s_isi hG.isa hK (s_oVar (pv 0)) (pe_glob (v := .ref (errC K 13)) rfl (hX.ge 13 (by decide)) rfl) (hG.clsv 13 (by decide)) rfl (hX.fr _ (by decide)) rfl rfl rfl)) (s_dat (d_str)) rfl rfl rfl (fun to ti h1 h2 => pg_sub h1 h2 (set_any hr.r.un1))) (ss_cons (st_store hr.r.un1 (pv 1) (s_fz (s_isi hG.isa hK (s_oVar (pv 0)) (pe_glob (v := .ref (errC K 14)) rfl (hX.ge 14 (by decide)) rfl) (hG.clsv 14 (by decide)) rfl (hX.fr _ (by decide)) rfl rfl rfl)) (s_dat (d_str)) rfl rfl rfl (fun to ti h1 h2 => pg_sub h1 h2 (set_any hr.r.un1))) (ss_cons (st_store hr.r.un1 (pv 1) (s_fz (s_isi hG.isa hK (s_oVar (pv 0)) (pe_glob (v := .ref (errC K 15)) rfl (hX.ge 15 (by decide)) rfl) (hG.clsv 15 (by decide)) rfl (hX.fr _ (by decide)) rfl rfl rfl)) (s_dat (d_str)) rfl rfl rfl (fun to ti h1 h2 => pg_sub h1 h2 (set_any hr.r.un1))) (ss_cons (st_store hr.r.un1 (pv 1) (s_fz (s_isi hG.isa hK (s_oVar (pv 0)) (pe_glob (v := .ref (errC K 16)) rfl (hX.ge 16 (by decide)) rfl) (hG.clsv 16 (by decide)) rfl (hX.fr _ (by decide)) rfl rfl rfl)) (s_dat (d_str)) rfl rfl rfl (fun to ti h1 h2 => pg_sub h1 h2 (set_any hr.r.un1))) (ss_cons (st_store hr.r.un1 (pv 1) (s_fz (s_isi hG.isa hK (s_oVar (pv 0)) (pe_glob (v := .ref (errC K 17)) rfl (hX.ge 17 (by decide)) rfl) (hG.clsv 17 (by decide)) rfl (hX.fr _ (by decide)) rfl rfl rfl)) (s_dat (d_str)) rfl rfl rfl (fun to ti h1 h2 => pg_sub h1 h2 (set_any hr.r.un1))) (ss_cons (st_store hr.r.un1 (pv 1) (s_fz (s_isi hG.isa hK (s_oVar (pv 0)) (pe_glob (v := .ref (errC K 18)) rfl (hX.ge 18 (by decide)) rfl) (hG.clsv 18 (by decide)) rfl (hX.fr _ (by decide)) rfl rfl rfl)) (s_dat (d_str)) rfl rfl rfl (fun to ti h1 h2 => pg_sub h1 h2 (set_any hr.r.un1))) (ss_cons (st_store hr.r.un1 (pv 1) (s_fz (s_isi hG.isa hK (s_oVar (pv 0)) (pe_glob (v := .ref (errC K 19)) rfl (hX.ge 19 (by decide)) rfl) (hG.clsv 19 (by decide)) rfl (hX.fr _ (by decide)) rfl rfl rfl)) (s_dat (d_str)) rfl rfl rfl (fun to ti h1 h2 => pg_sub h1 h2 (set_any hr.r.un1))) (ss_cons (st_store hr.r.un1 (pv 1) (s_fz (s_isi hG.isa hK (s_oVar (pv 0)) (pe_glob (v := .ref (errC K 20)) rfl (hX.ge 20 (by decide)) rfl) (hG.clsv 20 (by decide)) rfl (hX.fr _ (by decide)) rfl rfl rfl)) (s_dat (d_str)) rfl rfl rfl (fun to ti h1 h2 => pg_sub h1 h2 (set_any hr.r.un1))) (ss_cons (st_store hr.r.un1 (pv 1) (s_fz (s_isi hG.isa hK (s_oVar (pv 0)) (pe_glob (v := .ref (errC K 21)) rfl (hX.ge 21 (by decide)) rfl) (hG.clsv 21 (by decide)) rfl (hX.fr _ (by decide)) rfl rfl rfl)) (s_dat (d_str)) rfl rfl rfl (fun to ti h1 h2 => pg_sub h1 h2 (set_any hr.r.un1))) (ss_cons (st_store hr.r.un1 (pv 1) (s_fz (s_isi hG.isa hK (s_oVar (pv 0)) (pe_glob (v := .ref (errC K 22)) rfl (hX.ge 22 (by decide)) rfl) (hG.clsv 22 (by decide)) rfl (hX.fr _ (by decide)) rfl rfl rfl)) (s_dat (d_str)) rfl rfl rfl (fun to ti h1 h2 => pg_sub h1 h2 (set_any hr.r.un1))) (ss_cons (st_store hr.r.un1 (pv 1) (s_fz (s_isi hG.isa hK (s_oVar (pv 0)) (pe_glob (v := .ref (errC K 23)) rfl (hX.ge 23 (by decide)) rfl) (hG.clsv 23 (by decide)) rfl (hX.fr _ (by decide)) rfl rfl rfl)) (s_dat (d_str)) rfl rfl rfl (fun to ti h1 h2 => pg_sub h1 h2 (set_any hr.r.un1))) (ss_cons (st_store hr.r.un1 (pv 1) (s_fz (s_isi hG.isa hK (s_oVar (pv 0)) (pe_glob (v := .ref (errC K 24)) rfl (hX.ge 24 (by decide)) rfl) (hG.clsv 24 (by decide)) rfl (hX.fr _ (by decide)) rfl rfl rfl)) (s_dat (d_str)) rfl rfl rfl (fun to ti h1 h2 => pg_sub h1 h2 (set_any hr.r.un1))) (ss_cons (st_store hr.r.un1 (pv 1) (s_fz (s_isi hG.isa hK (s_oVar (pv 0)) (pe_glob (v := .ref (errC K 25)) rfl (hX.ge 25 (by decide)) rfl) (hG.clsv 25 (by decide)) rfl (hX.fr _ (by decide)) rfl rfl rfl)) (s_dat (d_str)) rfl rfl rfl (fun to ti h1 h2 => pg_sub h1 h2 (set_any hr.r.un1))) (ss_cons (st_store hr.r.un1 (pv 1) (s_fz (s_isi hG.isa hK (s_oVar (pv 0)) (pe_glob (v := .ref (errC K 48)) rfl (hX.ge 48 (by decide)) rfl) (hG.clsv 48 (by decide)) rfl (hX.fr _ (by decide)) rfl rfl rfl)) (s_dat (d_str)) rfl rfl rfl (fun to ti h1 h2 => pg_sub h1 h2 (set_any hr.r.un1))) (ss_cons (st_store hr.r.un1 (pv 1) (s_fz (s_isi hG.isa hK (s_oVar (pv 0)) (pe_glob (v := .ref (errC K 26)) rfl (hX.ge 26 (by decide)) rfl) (hG.clsv 26 (by decide)) rfl (hX.fr _ (by decide)) rfl rfl rfl)) (s_dat (d_str)) rfl rfl rfl (fun to ti h1 h2 => pg_sub h1 h2 (set_any hr.r.un1))) (ss_cons (st_store hr.r.un1 (pv 1) (s_fz (s_isi hG.isa hK (s_oVar (pv 0)) (pe_glob (v := .ref (errC K 27)) rfl (hX.ge 27 (by decide)) rfl) (hG.clsv 27 (by decide)) rfl (hX.fr _ (by decide)) rfl rfl rfl)) (s_dat (d_str)) rfl rfl rfl (fun to ti h1 h2 => pg_sub h1 h2 (set_any hr.r.un1))) (ss_cons (st_store hr.r.un1 (pv 1) (s_fz (s_isi hG.isa hK (s_oVar (pv 0)) (pe_glob (v := .ref (errC K 28)) rfl (hX.ge 28 (by decide)) rfl) (hG.clsv 28 (by decide)) rfl (hX.fr _ (by decide)) rfl rfl rfl)) (s_dat (d_str)) rfl rfl rfl (fun to ti h1 h2 => pg_sub h1 h2 (set_any hr.r.un1))) (ss_cons (st_store hr.r.un1 (pv 1) (s_fz (s_isi hG.isa hK (s_oVar (pv 0)) (pe_glob (v := .ref (errC K 29)) rfl (hX.ge 29 (by decide)) rfl) (hG.clsv 29 (by decide)) rfl (hX.fr _ (by decide)) rfl rfl rfl)) (s_dat (d_str)) rfl rfl rfl (fun to ti h1 h2 => pg_sub h1 h2 (set_any hr.r.un1))) (ss_cons (st_store hr.r.un1 (pv 1) (s_fz (s_isi hG.isa hK (s_oVar (pv 0)) (pe_glob (v := .ref (errC K 30)) rfl (hX.ge 30 (by decide)) rfl) (hG.clsv 30 (by decide)) rfl (hX.fr _ (by decide)) rfl rfl rfl)) (s_dat (d_str)) rfl rfl rfl (fun to ti h1 h2 => pg_sub h1 h2 (set_any hr.r.un1))) (ss_cons (st_store hr.r.un1 (pv 1) (s_fz (s_isi hG.isa hK (s_oVar (pv 0)) (pe_glob (v := .ref (errC K 31)) rfl (hX.ge 31 (by decide)) rfl) (hG.clsv 31 (by decide)) rfl (hX.fr _ (by decide)) rfl rfl rfl)) (s_dat (d_str)) rfl rfl rfl (fun to ti h1 h2 => pg_sub h1 h2 (set_any hr.r.un1))) (ss_cons (st_store hr.r.un1 (pv 1) (s_fz (s_isi hG.isa hK (s_oVar (pv 0)) (pe_glob (v := .ref (errC K 32)) rfl (hX.ge 32 (by decide)) rfl) (hG.clsv 32 (by decide)) rfl (hX.fr _ (by decide)) rfl rfl rfl)) (s_dat (d_str)) rfl rfl rfl (fun to ti h1 h2 => pg_sub h1 h2 (set_any hr.r.un1))) (ss_cons (st_store hr.r.un1 (pv 1) (s_fz (s_isi hG.isa hK (s_oVar (pv 0)) (pe_glob (v := .ref (errC K 33)) rfl (hX.ge 33 (by decide)) rfl) (hG.clsv 33 (by decide)) rfl (hX.fr _ (by decide)) rfl rfl rfl)) (s_dat (d_str)) rfl rfl rfl (fun to ti h1 h2 => pg_sub h1 h2 (set_any hr.r.un1))) (ss_cons (st_store hr.r.un1 (pv 1) (s_fz (s_isi hG.isa hK (s_oVar (pv 0)) (pe_glob (v := .ref (errC K 34)) rfl (hX.ge 34 (by decide)) rfl) (hG.clsv 34 (by decide)) rfl (hX.fr _ (by decide)) rfl rfl rfl)) (s_dat (d_str)) rfl rfl rfl (fun to ti h1 h2 => pg_sub h1 h2 (set_any hr.r.un1))) (ss_cons (st_store hr.r.un1 (pv 1) (s_fz (s_isi hG.isa hK (s_oVar (pv 0)) (pe_glob (v := .ref (errC K 35)) rfl (hX.ge 35 (by decide)) rfl) (hG.clsv 35 (by decide)) rfl (hX.fr _ (by decide)) rfl rfl rfl)) (s_dat (d_str)) rfl rfl rfl (fun to ti h1 h2 => pg_sub h1 h2 (set_any hr.r.un1))) (ss_cons (st_store hr.r.un1 (pv 1) (s_fz (s_isi hG.isa hK (s_oVar (pv 0)) (pe_glob (v := .ref (errC K 36)) rfl (hX.ge 36 (by decide)) rfl) (hG.clsv 36 (by decide)) rfl (hX.fr _ (by decide)) rfl rfl rfl)) (s_dat (d_str)) rfl rfl rfl (fun to ti h1 h2 => pg_sub h1 h2 (set_any hr.r.un1))) (ss_cons (st_store hr.r.un1 (pv 1) (s_fz (s_isi hG.isa hK (s_oVar (pv 0)) (pe_glob (v := .ref (errC K 37)) rfl (hX.ge 37 (by decide)) rfl) (hG.clsv 37 (by decide)) rfl (hX.fr _ (by decide)) rfl rfl rfl)) (s_dat (d_str)) rfl rfl rfl (fun to ti h1 h2 => pg_sub h1 h2 (set_any hr.r.un1))) (ss_cons (st_store hr.r.un1 (pv 1) (s_fz (s_isi hG.isa hK (s_oVar (pv 0)) (pe_glob (v := .ref (errC K 38)) rfl (hX.ge 38 (by decide)) rfl) (hG.clsv 38 (by decide)) rfl (hX.fr _ (by decide)) rfl rfl rfl)) (s_dat (d_str)) rfl rfl rfl (fun to ti h1 h2 => pg_sub h1 h2 (set_any hr.r.un1))) (ss_cons (st_store hr.r.un1 (pv 1) (s_fz (s_isi hG.isa hK (s_oVar (pv 0)) (pe_glob (v := .ref (errC K 39)) rfl (hX.ge 39 (by decide)) rfl) (hG.clsv 39 (by decide)) rfl (hX.fr _ (by decide)) rfl rfl rfl)) (s_dat (d_str)) rfl rfl rfl (fun to ti h1 h2 => pg_sub h1 h2 (set_any hr.r.un1))) (ss_cons (st_store hr.r.un1 (pv 1) (s_fz (s_isi hG.isa hK (s_oVar (pv 0)) (pe_glob (v := .ref (errC K 40)) rfl (hX.ge 40 (by decide)) rfl) (hG.clsv 40 (by decide)) rfl (hX.fr _ (by decide)) rfl rfl rfl)) (s_dat (d_str)) rfl rfl rfl (fun to ti h1 h2 => pg_sub h1 h2 (set_any hr.r.un1))) (ss_cons (st_store hr.r.un1 (pv 1) (s_fz (s_isi hG.isa hK (s_oVar (pv 0)) (pe_glob (v := .ref (errC K 41)) rfl (hX.ge 41 (by decide)) rfl) (hG.clsv 41 (by decide)) rfl (hX.fr _ (by decide)) rfl rfl rfl)) (s_dat (d_str)) rfl rfl rfl (fun to ti h1 h2 => pg_sub h1 h2 (set_any hr.r.un1))) (ss_cons (st_store hr.r.un1 (pv 1) (s_fz (s_isi hG.isa hK (s_oVar (pv 0)) (pe_glob (v := .ref (errC K 42)) rfl (hX.ge 42 (by decide)) rfl) (hG.clsv 42 (by decide)) rfl (hX.fr _ (by decide)) rfl rfl rfl)) (s_dat (d_str)) rfl rfl rfl (fun to ti h1 h2 => pg_sub h1 h2 (set_any hr.r.un1))) (ss_cons (st_store hr.r.un1 (pv 1) (s_fz (s_isi hG.isa hK (s_oVar (pv 0)) (pe_glob (v := .ref (errC K 43)) rfl (hX.ge 43 (by decide)) rfl) (hG.clsv 43 (by decide)) rfl (hX.fr _ (by decide)) rfl rfl rfl)) (s_dat (d_str)) rfl rfl rfl (fun to ti h1 h2 => pg_sub h1 h2 (set_any hr.r.un1))) (ss_cons (st_store hr.r.un1 (pv 1) (s_fz (s_isi hG.isa hK (s_oVar (pv 0)) (pe_glob (v := .ref (errC K 44)) rfl (hX.ge 44 (by decide)) rfl) (hG.clsv 44 (by decide)) rfl (hX.fr _ (by decide)) rfl rfl rfl)) (s_dat (d_str)) rfl rfl rfl (fun to ti h1 h2 => pg_sub h1 h2 (set_any hr.r.un1))) (ss_cons (st_store hr.r.un1 (pv 1) (s_fz (s_isi hG.isa hK (s_oVar (pv 0)) (pe_glob (v := .ref (errC K 49)) rfl (hX.ge 49 (by decide)) rfl) (hG.clsv 49 (by decide)) rfl (hX.fr _ (by decide)) rfl rfl rfl)) (s_dat (d_str)) rfl rfl rfl (fun to ti h1 h2 => pg_sub h1 h2 (set_any hr.r.un1))) (ss_cons (st_store hr.r.un1 (pv 1) (s_fz (s_isi hG.isa hK (s_oVar (pv 0)) (pe_glob (v := .ref (errC K 45)) rfl (hX.ge 45 (by decide)) rfl) (hG.clsv 45 (by decide)) rfl (hX.fr _ (by decide)) rfl rfl rfl)) (s_dat (d_str)) rfl rfl rfl (fun to ti h1 h2 => pg_sub h1 h2 (set_any hr.r.un1))) (ss_cons (st_store hr.r.un1 (pv 1) (s_fz (s_isi hG.isa hK (s_oVar (pv 0)) (pe_glob (v := .ref (errC K 46)) rfl (hX.ge 46 (by decide)) rfl) (hG.clsv 46 (by decide)) rfl (hX.fr _ (by decide)) rfl rfl rfl)) (s_dat (d_str)) rfl rfl rfl (fun to ti h1 h2 => pg_sub h1 h2 (set_any hr.r.un1))) (ss_cons (st_store hr.r.un1 (pv 1) (s_fz (s_isi hG.isa hK (s_oVar (pv 0)) (pe_glob (v := .ref (errC K 47)) rfl (hX.ge 47 (by decide)) rfl) (hG.clsv 47 (by decide)) rfl (hX.fr _ (by decide)) rfl rfl rfl)) (s_dat (d_str)) rfl rfl rfl (fun to ti h1 h2 => pg_sub h1 h2 (set_any hr.r.un1))) (ss_cons (st_ret (s_vMove (lk := [0]) (pv 1))) (ss_nil)))))))))))))))))))))))))))))))))))))))))))))))))))
/-! _law_is_right -/
abbrev st_law_is_right : Stmt := top 59
def b_law_is_right : List Sl → Out SF := mSeq (mSet [0, 1, 2] 3 (mApp lamF 1 (aCons (oVar 2) (aNil)))) (mSeq (mIf (bOr (mTst (m2 neD (mDat (mFz (mN reprD (aCons (mDat (mFz (m1 (excAt xk) (oVar 3)))) (aNil))))) (mDat (mFz (mN reprD (aCons (oVar 2) (aNil))))))) (bOr (bNot (mTst (m1 (isaD isaT (.own 0)) (oVar 3)))) (bNot (mTst (m1 (isaD isaT (.ty "ValueError")) (oVar 3)))))) (mSeq (mRet (mVal (mC (.bl false)))) (mSkip)) (mSkip)) (mSeq (mSet [0, 1, 2] 4 (mCall e_law_marks (aCons (oVar 3) (aNil)))) (mSeq (mRet (m2 eqD (mDat (mFz (mComp (.nm 5) (mIt (mVar 4)) (mTst (m2 idxD (oVar 4) (oVar 5))) (mVar 5) [5]))) (mDat (mFz (mLst (aCons (mDat (mVar 0)) (aNil))))))) (mSkip))))
def e_law_is_right : List Sl → Out EV := runF 6 [0, 1, 2] 3 b_law_is_right
theorem sc_law_is_right : FnScope ["name", "made", "value", "error", "marks", "one"] ["name", "made", "value"] (defScope st_law_is_right) := ⟨rfl, rfl, rfl, by decide +kernel, rfl, by decide +kernel, by decide +kernel⟩
theorem h_law_is_right (hX : Fx P K mg base T) (h_law_marks : Has P w K mg base (gl K T) "_law_marks" 5 1 e_law_marks) : Has P w K mg base (gl K T) "_law_is_right" 6 3 e_law_is_right := by
  have hS := sc_law_is_right
  have hK : (gl K T).K = K := rfl
  have hG := glOk hX
  have hLam := lamAll (w := w) hX
  obtain ⟨fd, F⟩ := hX.fn "_law_is_right" 59 (by decide)
  refine has_of (N := ["name", "made", "value", "error", "marks", "one"]) (ps := ["name", "made", "value"]) (lk := [0, 1, 2]) (k := 5) (m := b_law_is_right) F (hX.gf "_law_is_right" 59 (by decide)) hS (fun _ _ _ _ _ _ us hl => match us, hl with | [_, _, _], _ => rfl) fun cdv A outer s H E hcd hr tk hp => ?_
  exact ss_cons (st_set (s_app hLam (hr.mono (by decide)) (passW tk) rfl (by first | exact .inl rfl | exact .inr (.inl rfl) | exact .inr (.inr rfl)) (by decide) (by decide) (a_cons (s_oVar (pv 2)) (a_nil) rfl) rfl rfl) (fun te h => ps_set hS.nd rfl (by first | exact .inl rfl | exact .inr rfl) h)) (ss_cons (st_if (p_w (w_or (p_cmp (op_neDD hr.r.un200) (s_dat (s_fz (s_blt (c_repr hK hr.g hr.r.un200) rfl (hX.fr _ (by decide)) rfl (a_cons (s_dat (s_fz (s_value hG.xf (s_oVar (pv 3)) rfl))) (a_nil) rfl) (by decide) (by decide) rfl rfl))) (s_dat (s_fz (s_blt (c_repr hK hr.g hr.r.un200) rfl (hX.fr _ (by decide)) rfl (a_cons (s_oVar (pv 2)) (a_nil) rfl) (by decide) (by decide) rfl rfl))) rfl) (w_or (p_not (p_val (s_isi hG.isa hK (s_oVar (pv 3)) (pe_glob (v := .ref (errC K 0)) rfl (hX.ge 0 (by decide)) rfl) (hG.clsv 0 (by decide)) rfl (hX.fr _ (by decide)) rfl rfl rfl) (fun _ => rfl))) (w_or1 (p_not (p_val (s_isi hG.isa hK (s_oVar (pv 3)) (pe_bltn (v := V.ty "ValueError") (u := .type "ValueError") rfl (hX.fr _ (by decide)) rfl rfl) rfl rfl (hX.fr _ (by decide)) rfl rfl rfl) (fun _ => rfl))))))) (ss_cons (st_ret (s_val d_bl)) (ss_nil)) (ss_nil)) (ss_cons (st_set (s_callF (h_law_marks.mono (by decide)) hr tk rfl (a_cons (s_oVar (pv 3)) (a_nil) rfl) (by decide) rfl rfl) (fun te h => ps_set hS.nd rfl (by first | exact .inl rfl | exact .inr rfl) h)) (ss_cons (st_ret (s_cmp (op_eqDD hr.r.un200) (s_dat (s_fz (s_comp (own := [("one", 5)]) rfl hS.nd (i_seq hK (s_mVar (pv 4))) (blkOk_by (N := ["name", "made", "value", "error", "marks", "one"]) (sc := defScope st_law_is_right) (by decide +kernel)) (fun _ _ _ _ _ => g_nm (lk := []) (pg_name (i := 5) hS.nd rfl (by first | exact .inl rfl | exact .inr rfl) (by first | exact .inl rfl | exact .inr rfl))) (fun _ _ _ _ _ => pts1 (p_val (s_ix hK hr.r.un1 (s_oVar (pv 4)) (s_oVar (pv 5)) (fun _ _ => rfl)) (fun _ => rfl))) (fun _ _ _ _ _ => s_mVar (pv 5)) (fun _ => rfl) (by decide)))) (s_dat (s_fz (s_lst (a_cons (s_dat (s_mVar (pv 0))) (a_nil) rfl)))) rfl)) (ss_nil))))
/-! _law_right -/
abbrev st_law_right : Stmt := top 60
def b_law_right : List Sl → Out SF := mSeq (mFor [0] (.tp [.nm 1, .nm 2]) (mIt (mFz (mCall e_law_made aNil))) (mSeq (mFor [0] (.nm 3) (mIt (mFz (mLst (aCons (mDat (mFz (mCall e_law_odd (aCons (oVar 0) (aNil))))) (aCons (mDat (mFz (mCall e_law_odd (aCons (oVar 0) (aNil))))) (aCons (mDat (mFz (mTup (aCons (mDat (mC (.int 1))) (aCons (mDat (mFz (mTup (aCons (mDat (mC (.int 2))) (aCons (mDat (mC (.str "a"))) (aNil)))))) (aNil)))))) (aCons (mDat (mC (.str "x y"))) (aNil)))))))) (mSeq (mIf (bNot (mTst (mCall e_law_is_right (aCons (oVar 1) (aCons (oVar 2) (aCons (oVar 3) (aNil))))))) (mSeq (mRet (mVal (mC (.bl false)))) (mSkip)) (mSkip)) (mSkip))) (mSkip))) (mSeq (mSet [0] 4 (mErr 0 (mFz (mCall e_law_odd (aCons (oVar 0) (aNil)))))) (mSeq (mRet (vAnd (vNot (mAnyVals (mDat (mFz (mCall e_law_marks (aCons (oVar 4) (aNil))))))) (m1 (isaD isaT (.ty "ValueError")) (oVar 4)))) (mSkip)))
def e_law_right : List Sl → Out EV := runF 5 [0] 1 b_law_right
theorem sc_law_right : FnScope ["pot", "name", "made", "value", "base"] ["pot"] (defScope st_law_right) := ⟨rfl, rfl, rfl, by decide +kernel, rfl, by decide +kernel, by decide +kernel⟩
theorem h_law_right (hX : Fx P K mg base T) (h_law_is_right : Has P w K mg base (gl K T) "_law_is_right" 6 3 e_law_is_right) (h_law_made : Has P w K mg base (gl K T) "_law_made" 5 0 e_law_made) (h_law_marks : Has P w K mg base (gl K T) "_law_marks" 5 1 e_law_marks) (h_law_odd : Has P w K mg base (gl K T) "_law_odd" 7 1 e_law_odd) : Has P w K mg base (gl K T) "_law_right" 8 1 e_law_right := by
  have hS := sc_law_right
  have hK : (gl K T).K = K := rfl
  have hG := glOk hX
  obtain ⟨fd, F⟩ := hX.fn "_law_right" 60 (by decide)
  refine has_of (N := ["pot", "name", "made", "value", "base"]) (ps := ["pot"]) (lk := [0]) (k := 7) (m := b_law_right) F (hX.gf "_law_right" 60 (by decide)) hS (fun _ _ _ _ _ _ us hl => match us, hl with | [_], _ => rfl) fun cdv A outer s H E hcd hr tk hp => ?_
  exact ss_cons (st_for hp rfl (i_seq hK (s_fz (s_callF0 (h_law_made.mono (by decide)) hr tk rfl (by decide)))) (g_tp rfl (gs_cons (g_nm (lk := [0]) (pg_name (i := 1) hS.nd rfl (by first | exact .inl rfl | exact .inr rfl) (by first | exact .inl rfl | exact .inr rfl))) (gs_cons (g_nm (lk := [0]) (pg_name (i := 2) hS.nd rfl (by first | exact .inl rfl | exact .inr rfl) (by first | exact .inl rfl | exact .inr rfl))) (gs_nil) rfl) rfl) rfl rfl) (ss_cons (st_for hp rfl (i_seq hK (s_fz (s_lst (a_cons (s_dat (s_fz (s_callF (h_law_odd.mono (by decide)) hr tk rfl (a_cons (s_oVar (pv 0)) (a_nil) rfl) (by decide) rfl rfl))) (a_cons (s_dat (s_fz (s_callF (h_law_odd.mono (by decide)) hr tk rfl (a_cons (s_oVar (pv 0)) (a_nil) rfl) (by decide) rfl rfl))) (a_cons (s_dat (s_fz (s_tup (a_cons (s_dat (d_int)) (a_cons (s_dat (s_fz (s_tup (a_cons (s_dat (d_int)) (a_cons (s_dat (d_str)) (a_nil) rfl) rfl)))) (a_nil) rfl) rfl)))) (a_cons (s_dat (d_str)) (a_nil) rfl) rfl) rfl) rfl)))) (g_nm (lk := [0]) (pg_name (i := 3) hS.nd rfl (by first | exact .inl rfl | exact .inr rfl) (by first | exact .inl rfl | exact .inr rfl))) (ss_cons (st_if (p_not (p_val (s_callF (h_law_is_right.mono (by decide)) hr tk rfl (a_cons (s_oVar (pv 1)) (a_cons (s_oVar (pv 2)) (a_cons (s_oVar (pv 3)) (a_nil) rfl) rfl) rfl) (by decide) rfl rfl) (fun _ => rfl))) (ss_cons (st_ret (s_val d_bl)) (ss_nil)) (ss_nil)) (ss_nil)) (fun _ => rfl)) (ss_nil)) (fun _ => rfl)) (ss_cons (st_set (s_err (hG.cls 0 (by decide)) (fun te h => pe_mkE hX.xi (hX.xc 0 (by decide)) (hr.mono (by decide)).r rfl (hX.ge 0 (by decide)) h (by decide) rfl) (s_fz (s_callF (h_law_odd.mono (by decide)) hr tk rfl (a_cons (s_oVar (pv 0)) (a_nil) rfl) (by decide) rfl rfl))) (fun te h => ps_set hS.nd rfl (by first | exact .inl rfl | exact .inr rfl) h)) (ss_cons (st_ret (v_and (v_not (s_anyVals rfl rfl (hX.fr _ (by decide)) (s_dat (s_fz (s_callF (h_law_marks.mono (by decide)) hr tk rfl (a_cons (s_oVar (pv 4)) (a_nil) rfl) (by decide) rfl rfl))) rfl rfl rfl)) (v_one (s_isi hG.isa hK (s_oVar (pv 4)) (pe_bltn (v := V.ty "ValueError") (u := .type "ValueError") rfl (hX.fr _ (by decide)) rfl rfl) rfl rfl (hX.fr _ (by decide)) rfl rfl rfl)))) (ss_nil)))
/-! _law_pot -/
abbrev st_law_pot : Stmt := top 52
def b_law_pot : List Sl → Out SF := mSeq (mSet [0, 1] 2 (mIfE (mTst (m2 ltD (oVar 1) (mDat (mFz (mN lenD (aCons (oVar 0) (aNil))))))) (m2 idxD (oVar 0) (oVar 1)) (m2 addD (mDat (mFz (m2 addD (mDat (mFz (m2 modD (mDat (mFz (mN sumD (aCons (mDat (mFz (mSlice (oVar 0) none (some (mDat (mC (.int 1))))))) (aNil))))) (mDat (mC (.int 1000003)))))) (mDat (mFz (m2 mulD (mDat (mC (.int 18395))) (oVar 1))))))) (mDat (mC (.int 5825)))))) (mSeq (mSet [0, 1] 3 (m2 mulD (mDat (mFz (m2 modD (mDat (mFz (mN intD (aCons (mDat (mFz (mN absD (aCons (oVar 2) (aNil))))) (aNil))))) (mDat (mFz (m2 powD (mDat (mFz (m2 powD (mDat (mC (.int 10))) (mDat (mC (.int 60)))))) (mDat (mC (.int 5))))))))) (mDat (mFz (mN intD (aCons (mDat (mFz (m2 geD (mDat (mFz (mN absD (aCons (oVar 2) (aNil))))) (mDat (mFz (m2 powD (mDat (mC (.int 10))) (mDat (mC (.int 18))))))))) (aNil))))))) (mSeq (mSet [0, 1] 4 (m2 modD (mDat (mFz (mN intD (aCons (oVar 2) (aNil))))) (mDat (mC (.int 2305843009213693951))))) (mSeq (mRet (mLst (aCons (mDat (mVar 3)) (aCons (mDat (mFz (m2 modD (mDat (mFz (mN intD (aCons (mDat (mFz (m2 addD (mDat (mFz (m2 addD (mDat (mFz (m2 mulD (oVar 4) (mDat (mC (.int 98033)))))) (mDat (mFz (m2 mulD (mDat (mFz (m2 mulD (mDat (mC (.int 17651))) (oVar 1)))) (oVar 1))))))) (mDat (mC (.int 6795)))))) (aNil))))) (mDat (mC (.int 2305843009213693921)))))) (aCons (mDat (mC (.int 0))) (aNil)))))) (mSkip))))
def e_law_pot : List Sl → Out EV := runF 5 [0, 1] 2 b_law_pot
theorem sc_law_pot : FnScope ["script", "place", "cell", "own", "small"] ["script", "place"] (defScope st_law_pot) := ⟨rfl, rfl, rfl, by decide +kernel, rfl, by decide +kernel, by decide +kernel⟩
theorem h_law_pot (hX : Fx P K mg base T) : Has P w K mg base (gl K T) "_law_pot" 5 2 e_law_pot := by
  have hS := sc_law_pot
  have hK : (gl K T).K = K := rfl
  have hG := glOk hX
  obtain ⟨fd, F⟩ := hX.fn "_law_pot" 52 (by decide)
  refine has_of (N := ["script", "place", "cell", "own", "small"]) (ps := ["script", "place"]) (lk := [0, 1]) (k := 4) (m := b_law_pot) F (hX.gf "_law_pot" 52 (by decide)) hS (fun _ _ _ _ _ _ us hl => match us, hl with | [_, _], _ => rfl) fun cdv A outer s H E hcd hr tk hp => ?_
  exact ss_cons (st_set (s_ife (p_cmp (op_ltD) (s_oVar (pv 1)) (s_dat (s_fz (s_blt (c_len hK) rfl (hX.fr _ (by decide)) rfl (a_cons (s_oVar (pv 0)) (a_nil) rfl) (by decide) (by decide) rfl rfl))) rfl) (s_ix hK hr.r.un1 (s_oVar (pv 0)) (s_oVar (pv 1)) (fun _ _ => rfl)) (s_op op_addD (s_dat (s_fz (s_op op_addD (s_dat (s_fz (s_op op_modD (s_dat (s_fz (s_blt (c_sum hK rfl) rfl (hX.fr _ (by decide)) rfl (a_cons (s_dat (s_fz (s_slice hK (s_oVar (pv 0)) p_none (p_some (s_dat (d_int)))))) (a_nil) rfl) (by decide) (by decide) rfl rfl))) (s_dat (d_int))))) (s_dat (s_fz (s_op op_mulD (s_dat (d_int)) (s_oVar (pv 1)))))))) (s_dat (d_int)))) (fun te h => ps_set hS.nd rfl (by first | exact .inl rfl | exact .inr rfl) h)) (ss_cons (st_set (s_op op_mulD (s_dat (s_fz (s_op op_modD (s_dat (s_fz (s_ty (c_int) rfl (hX.fr _ (by decide)) rfl (a_cons (s_dat (s_fz (s_blt (c_abs) rfl (hX.fr _ (by decide)) rfl (a_cons (s_oVar (pv 2)) (a_nil) rfl) (by decide) (by decide) rfl rfl))) (a_nil) rfl) (by decide) (by decide) rfl rfl))) (s_dat (s_fz (s_op op_powD (s_dat (s_fz (s_op op_powD (s_dat (d_int)) (s_dat (d_int))))) (s_dat (d_int)))))))) (s_dat (s_fz (s_ty (c_int) rfl (hX.fr _ (by decide)) rfl (a_cons (s_dat (s_fz (s_cmp (op_geD) (s_dat (s_fz (s_blt (c_abs) rfl (hX.fr _ (by decide)) rfl (a_cons (s_oVar (pv 2)) (a_nil) rfl) (by decide) (by decide) rfl rfl))) (s_dat (s_fz (s_op op_powD (s_dat (d_int)) (s_dat (d_int))))) rfl))) (a_nil) rfl) (by decide) (by decide) rfl rfl)))) (fun te h => ps_set hS.nd rfl (by first | exact .inl rfl | exact .inr rfl) h)) (ss_cons (st_set (s_op op_modD (s_dat (s_fz (s_ty (c_int) rfl (hX.fr _ (by decide)) rfl (a_cons (s_oVar (pv 2)) (a_nil) rfl) (by decide) (by decide) rfl rfl))) (s_dat (d_int))) (fun te h => ps_set hS.nd rfl (by first | exact .inl rfl | exact .inr rfl) h)) (ss_cons (st_ret (s_lst (a_cons (s_dat (s_mVar (pv 3))) (a_cons (s_dat (s_fz (s_op op_modD (s_dat (s_fz (s_ty (c_int) rfl (hX.fr _ (by decide)) rfl (a_cons (s_dat (s_fz (s_op op_addD (s_dat (s_fz (s_op op_addD (s_dat (s_fz (s_op op_mulD (s_oVar (pv 4)) (s_dat (d_int))))) (s_dat (s_fz (s_op op_mulD (s_dat (s_fz (s_op op_mulD (s_dat (d_int)) (s_oVar (pv 1))))) (s_oVar (pv 1)))))))) (s_dat (d_int))))) (a_nil) rfl) (by decide) (by decide) rfl rfl))) (s_dat (d_int))))) (a_cons (s_dat (d_int)) (a_nil) rfl) rfl) rfl))) (ss_nil))))
/-! law -/
abbrev stlaw : Stmt := top 61
def blaw : List Sl → Out SF := mSeq (mFor [0] (.nm 1) (mIt (mFz (mCall e_law_cells (aCons (oVar 0) (aCons (mDat (mC (.int 2))) (aNil)))))) (mSeq (mIf (bNot (mTst (mCallN e_law_right (mCall e_law_pot (aCons (oVar 0) (aCons (oVar 1) (aNil))))))) (mSeq (mRet (mVal (mC (.bl false)))) (mSkip)) (mSkip)) (mSkip))) (mSeq (mRet (mVal (mC (.bl true)))) (mSkip))
def elaw : List Sl → Out EV := runF 2 [0] 1 blaw
theorem sclaw : FnScope ["script", "place"] ["script"] (defScope stlaw) := ⟨rfl, rfl, rfl, by decide +kernel, rfl, by decide +kernel, by decide +kernel⟩
theorem hlaw (hX : Fx P K mg base T) (h_law_cells : Has P w K mg base (gl K T) "_law_cells" 5 2 e_law_cells) (h_law_pot : Has P w K mg base (gl K T) "_law_pot" 5 2 e_law_pot) (h_law_right : Has P w K mg base (gl K T) "_law_right" 8 1 e_law_right) : Has P w K mg base (gl K T) "law" 9 1 elaw := by
  have hS := sclaw
  have hK : (gl K T).K = K := rfl
  have hG := glOk hX
  obtain ⟨fd, F⟩ := hX.fn "law" 61 (by decide)
  refine has_of (N := ["script", "place"]) (ps := ["script"]) (lk := [0]) (k := 8) (m := blaw) F (hX.gf "law" 61 (by decide)) hS (fun _ _ _ _ _ _ us hl => match us, hl with | [_], _ => rfl) fun cdv A outer s H E hcd hr tk hp => ?_
  exact ss_cons (st_for hp rfl (i_seq hK (s_fz (s_callF (h_law_cells.mono (by decide)) hr tk rfl (a_cons (s_oVar (pv 0)) (a_cons (s_dat (d_int)) (a_nil) rfl) rfl) (by decide) rfl rfl))) (g_nm (lk := [0]) (pg_name (i := 1) hS.nd rfl (by first | exact .inl rfl | exact .inr rfl) (by first | exact .inl rfl | exact .inr rfl))) (ss_cons (st_if (p_not (p_val (s_callN (h_law_right.mono (by decide)) hr tk rfl (s_callF (h_law_pot.mono (by decide)) hr tk rfl (a_cons (s_oVar (pv 0)) (a_cons (s_oVar (pv 1)) (a_nil) rfl) rfl) (by decide) rfl rfl) (by decide) rfl rfl) (fun _ => rfl))) (ss_cons (st_ret (s_val d_bl)) (ss_nil)) (ss_nil)) (ss_nil)) (fun _ => rfl)) (ss_cons (st_ret (s_val d_bl)) (ss_nil))
end
end K00
end PyI

set_option Elab.async false
set_option linter.all false
set_option maxRecDepth 100000
/-! k00: the plain law. -/
namespace PyI
namespace K00
open PySem PySem.Spec L2
set_option autoImplicit false
abbrev pot (a b c : Int) : Ob := .lst [.int a, .int b, .int c]
structure Pot (a b c : Int) : Prop where
  a0 : 0 ≤ a
  b0 : 0 ≤ b
  b1 : b < 2305843009213693921
  c0 : 0 ≤ c
theorem seq_next {m1 m2 : List Sl → Out SF} {env env' : List Sl} (h : m1 env = .ok .next env') : mSeq m1 m2 env = m2 env' := by
  unfold mSeq; rw [h]; rfl
theorem seq_ret {m1 m2 : List Sl → Out SF} {env env' : List Sl} {r : EV} (h : m1 env = .ok (.ret r) env') : mSeq m1 m2 env = .ok (.ret r) env' := by
  unfold mSeq; rw [h]; rfl
theorem log_lt {x : Int} (h1 : -(2 ^ 64) < x) (h2 : x < 2 ^ 64) : x.natAbs.log2 < 64 := by
  by_cases h : x.natAbs = 0
  · rw [h]; decide
  · exact (Nat.log2_lt h).mpr (by omega)
theorem ix0 {a b c : Int} : idxD (.lst [.int a, .int b, .int c]) (.int 0) = some (.val (.int a)) := rfl
theorem ix1 {a b c : Int} : idxD (.lst [.int a, .int b, .int c]) (.int 1) = some (.val (.int b)) := rfl
theorem ix2 {a b c : Int} : idxD (.lst [.int a, .int b, .int c]) (.int 2) = some (.val (.int c)) := rfl
theorem mul_ok {i j : Int} (hi : i.natAbs.log2 < 500000) (hj : j.natAbs.log2 < 500000) : mulD (.int i) (.int j) = some (.val (.int (i * j))) := by
  show (if i.natAbs.log2 + j.natAbs.log2 < 1000000 then _ else _) = _
  rw [if_pos (by omega)]
theorem pow_ok {i j : Int} (h : 0 ≤ j) (h2 : (i.natAbs.log2 + 1) * j.toNat ≤ 134217728) : powD (.int i) (.int j) = some (.val (.int (i ^ j.toNat))) := by
  show (if CPW i j then some (D.int (i ^ j.toNat)) else none).map EV.val = _
  rw [if_pos ⟨h, h2⟩]; rfl
theorem take1 {a b c n : Int} (ha : 0 < a) (hn : 0 < n) (hn2 : n.natAbs.log2 < 9000) : e_law_take [.own (pot a b c), .d (.int n)] = .ok (.val (.int (a % n))) [.own (pot (a / n) b c), .d (.int n)] := by
  unfold e_law_take b_law_take
  simp [runF, okA, isOwn, retA, mSeq, mIf, mTst, m1, m2, mN, finN, fin1, fin2, looks, oVar, mDat, mFz, mC, mVar, mVal, Out.bind, look, ofOpt, EV.fz, Ob.flat, Ob.fz, mSet, setSl, toSl, mStore, mRet, vMove, mSkip, aNil, aCons, modD, fdivD, addD, subD, mulD, powD, gtD, ltD, leD, geD, iiD, idxD, atI, ixN, intD, stOb, mDisp, dats, *]
theorem take2 {a b c n : Int} (ha : ¬ 0 < a) (hn : 0 < n) (hb0 : 0 ≤ b) (hb : b < 2305843009213693921) (hc0 : 0 ≤ c) (hc1 : c < 1000) : ∃ k, e_law_take [.own (pot a b c), .d (.int n)] = .ok (.val (.int k)) [.own (pot a b (c + 1)), .d (.int n)] ∧ 0 ≤ k ∧ k < n := by
  obtain ⟨k, env', hk, k0, k1, he⟩ : ∃ k env', b_law_take [.own (pot a b c), .d (.int n), .un, .un, .un] = .ok (.ret (.val (.int k))) env' ∧ 0 ≤ k ∧ k < n ∧ env'[0]? = some (.own (pot a b (c + 1))) ∧ env'[1]? = some (.d (.int n)) ∧ env'.length = 5 := by
    unfold b_law_take
    rw [seq_next (env' := [.own (pot a b c), .d (.int n), .un, .un, .un]) (by simp [runF, okA, isOwn, retA, mSeq, mIf, mTst, m1, m2, mN, finN, fin1, fin2, looks, oVar, mDat, mFz, mC, mVar, mVal, Out.bind, look, ofOpt, EV.fz, Ob.flat, Ob.fz, mSet, setSl, toSl, mStore, mRet, vMove, mSkip, aNil, aCons, modD, fdivD, addD, subD, mulD, powD, gtD, ltD, leD, geD, iiD, idxD, atI, ixN, intD, stOb, mDisp, dats, *]), seq_next (env' := [.own (pot a b (c + 1)), .d (.int n), .un, .un, .un]) (by simp [runF, okA, isOwn, retA, mSeq, mIf, mTst, m1, m2, mN, finN, fin1, fin2, looks, oVar, mDat, mFz, mC, mVar, mVal, Out.bind, look, ofOpt, EV.fz, Ob.flat, Ob.fz, mSet, setSl, toSl, mStore, mRet, vMove, mSkip, aNil, aCons, modD, fdivD, addD, subD, mulD, powD, gtD, ltD, leD, geD, iiD, idxD, atI, ixN, intD, stOb, mDisp, dats, *])]
    obtain ⟨p, hp, p0, p1⟩ : ∃ p, idxD (.lst [.int 2147483647, .int 2147483629, .int 2147483587, .int 2147483579, .int 2147483563]) (.int ((c + 1) % 5)) = some (.val (.int p)) ∧ 0 < p ∧ p < 2147483648 := by
      have h1 : (c + 1) % 5 = 0 ∨ (c + 1) % 5 = 1 ∨ (c + 1) % 5 = 2 ∨ (c + 1) % 5 = 3 ∨ (c + 1) % 5 = 4 := by omega
      rcases h1 with h1 | h1 | h1 | h1 | h1 <;> rw [h1] <;> exact ⟨_, rfl, by decide, by decide⟩
    have sm : ∀ x : Int, -(2 ^ 64) < x → x < 2 ^ 64 → x.natAbs.log2 < 500000 := fun x h1 h2 => Nat.lt_trans (log_lt h1 h2) (by decide)
    have q1 : 110249 * (c + 1) ≤ 110249 * 1000 := by omega
    have q2 : 110249 * (c + 1) * (c + 1) ≤ 110249 * 1000 * 1000 := Int.mul_le_mul q1 (by omega) (by omega) (by omega)
    have q3 : 0 ≤ 110249 * (c + 1) * (c + 1) := Int.mul_nonneg (by omega) (by omega)
    have m1' := mul_ok (sm 110249 (by decide) (by decide)) (sm (c + 1) (by omega) (by omega))
    have m2' := mul_ok (sm (110249 * (c + 1)) (by omega) (by omega)) (sm (c + 1) (by omega) (by omega))
    have m3' := mul_ok (sm 2283 (by decide) (by decide)) (sm (c + 1) (by omega) (by omega))
    obtain ⟨x, hx⟩ : ∃ x, b + 110249 * (c + 1) * (c + 1) + 3645 = x := ⟨_, rfl⟩
    have x0 : 0 ≤ x := by omega
    have x1 : x < 2 ^ 64 := by omega
    have pw := pow_ok (i := x) (j := 3) (by decide) (by have := log_lt (x := x) (by omega) x1; show (x.natAbs.log2 + 1) * 3 ≤ 134217728; omega)
    have e3 : (3 : Int).toNat = 3 := rfl
    rw [e3] at pw
    rw [seq_next (env' := [.own (pot a b (c + 1)), .d (.int n), .un, .d (.int p), .un]) (by simp [runF, okA, isOwn, retA, mSeq, mIf, mTst, m1, m2, mN, finN, fin1, fin2, looks, oVar, mDat, mFz, mC, mVar, mVal, Out.bind, look, ofOpt, EV.fz, Ob.flat, Ob.fz, mSet, setSl, toSl, mRet, vMove, mSkip, aNil, aCons, modD, fdivD, addD, subD, iiD, ix0, ix1, ix2, intD, mDisp, dats, *])]
    obtain ⟨y, hy⟩ : ∃ y, x ^ 3 % p = y := ⟨_, rfl⟩
    have y0 : 0 ≤ y := by rw [← hy]; exact Int.emod_nonneg _ (by omega)
    have y1 : y < p := by rw [← hy]; exact Int.emod_lt_of_pos _ p0
    rw [seq_next (env' := [.own (pot a b (c + 1)), .d (.int n), .un, .d (.int p), .d (.int y)]) (by simp [runF, okA, isOwn, retA, mSeq, mIf, mTst, m1, m2, mN, finN, fin1, fin2, looks, oVar, mDat, mFz, mC, mVar, mVal, Out.bind, look, ofOpt, EV.fz, Ob.flat, Ob.fz, mSet, setSl, toSl, mRet, vMove, mSkip, aNil, aCons, modD, fdivD, addD, subD, iiD, ix0, ix1, ix2, intD, mDisp, dats, *])]
    have r0 : 0 ≤ y % 21307 + 2283 * (c + 1) := by omega
    have r1 : y % 21307 + 2283 * (c + 1) < 3000000 := by omega
    have m4' := mul_ok (sm y (by omega) (by omega)) (sm (y % 21307 + 2283 * (c + 1)) (by omega) (by omega))
    obtain ⟨z, hz⟩ : ∃ z, y * (y % 21307 + 2283 * (c + 1)) % 2305843009213693907 = z := ⟨_, rfl⟩
    have z0 : 0 ≤ z := by rw [← hz]; exact Int.emod_nonneg _ (by decide)
    rw [seq_next (env' := [.own (pot a b (c + 1)), .d (.int n), .un, .d (.int p), .d (.int z)]) (by simp [runF, okA, isOwn, retA, mSeq, mIf, mTst, m1, m2, mN, finN, fin1, fin2, looks, oVar, mDat, mFz, mC, mVar, mVal, Out.bind, look, ofOpt, EV.fz, Ob.flat, Ob.fz, mSet, setSl, toSl, mRet, vMove, mSkip, aNil, aCons, modD, fdivD, addD, subD, iiD, ix0, ix1, ix2, intD, mDisp, dats, *])]
    refine ⟨z / 5425 % n, [.own (pot a b (c + 1)), .d (.int n), .un, .d (.int p), .d (.int z)], seq_ret (by have l : Nat.log2 5425 < 9000 := by decide
                                                                                                            simp [runF, okA, isOwn, retA, mSeq, mIf, mTst, m1, m2, mN, finN, fin1, fin2, looks, oVar, mDat, mFz, mC, mVar, mVal, Out.bind, look, ofOpt, EV.fz, Ob.flat, Ob.fz, mSet, setSl, toSl, mRet, vMove, mSkip, aNil, aCons, modD, fdivD, addD, subD, iiD, ix0, ix1, ix2, intD, mDisp, dats, *]), Int.emod_nonneg _ (by omega), Int.emod_lt_of_pos _ hn, rfl, rfl, rfl⟩
  refine ⟨k, ?_, k0, k1⟩
  unfold e_law_take runF
  rw [if_pos ⟨rfl, rfl⟩]
  show (match b_law_take [.own (pot a b c), .d (.int n), .un, .un, .un] with
    | .ok .next env => Out.ok (EV.val .non) (retA [0, 1] 0 _ env)
    | .ok (.ret r) env => .ok r (retA [0, 1] 0 _ env)
    | .exc c d env => .exc c d (retA [0, 1] 0 _ env)
    | .bad => .bad) = _
  rw [hk]
  match env', he with
  | [s0, s1, s2, s3, s4], he =>
    simp at he
    obtain ⟨rfl, rfl⟩ := he
    rfl

theorem take_ok {a b c n : Int} (P : Pot a b c) (hc : c < 1000) (hn : 0 < n) (hn2 : n ≤ 1000) : ∃ k a' c', e_law_take [.own (pot a b c), .d (.int n)] = .ok (.val (.int k)) [.own (pot a' b c'), .d (.int n)] ∧ 0 ≤ k ∧ k < n ∧ Pot a' b c' ∧ c' ≤ c + 1 := by
  by_cases ha : 0 < a
  · refine ⟨a % n, a / n, c, take1 ha hn ?_, Int.emod_nonneg _ (by omega), Int.emod_lt_of_pos _ hn, ⟨Int.ediv_nonneg P.a0 (by omega), P.b0, P.b1, P.c0⟩, by omega⟩
    exact Nat.lt_trans (log_lt (by omega) (by omega)) (by decide)
  · obtain ⟨k, h1, h2, h3⟩ := take2 (n := n) ha hn P.b0 P.b1 P.c0 hc
    exact ⟨k, a, c + 1, h1, h2, h3, ⟨P.a0, P.b0, P.b1, by have := P.c0; omega⟩, by omega⟩
theorem of_ok {a b c : Int} {xs : List D} (P : Pot a b c) (hc : c < 1000) (h0 : 0 < xs.length) (h1 : xs.length ≤ 1000) : ∃ v a' c', e_law_of [.own (pot a b c), .d (.lst xs)] = .ok (.val v) [.own (pot a' b c'), .d (.lst xs)] ∧ v ∈ xs ∧ Pot a' b c' ∧ c' ≤ c + 1 := by
  obtain ⟨k, a', c', ht, k0, k1, P', hc'⟩ := take_ok (n := xs.length) P hc (by omega) (by omega)
  have hk : k.toNat < xs.length := by omega
  have hix : idxD (.lst xs) (.int k) = some (.val (xs[k.toNat]'hk)) := by
    show (atI xs k).map EV.val = _
    unfold atI ixN
    rw [if_pos k0, if_pos (by omega)]
    show (xs[k.toNat]?).map EV.val = _
    rw [List.getElem?_eq_getElem hk]; rfl
  refine ⟨xs[k.toNat]'hk, a', c', ?_, List.getElem_mem hk, P', hc'⟩
  unfold e_law_of b_law_of
  simp [runF, okA, isOwn, retA, mSeq, m2, mN, finN, fin2, looks, oVar, mDat, mFz, Out.bind, look, ofOpt, EV.fz, Ob.flat, Ob.fz, mRet, aNil, aCons, lenD, mCall, callA, resAs, resA, putB, ht, hix]
end K00
end PyI

set_option Elab.async false
set_option linter.all false
set_option maxRecDepth 100000
set_option maxHeartbeats 0
/-! k00: the plain law, 2. -/
namespace PyI
namespace K00
open PySem PySem.Spec L2
set_option autoImplicit false
/-! ### _law_marks -/
def mkL : List (Str × Nat) := [(("BadArrival" : Str), 1), (("BadBounds" : Str), 2), (("BadDays" : Str), 3), (("BadDeed" : Str), 4), (("BadEvent" : Str), 5), (("BadForest" : Str), 6), (("BadHall" : Str), 7), (("BadJournal" : Str), 8), (("BadKeeping" : Str), 9), (("BadLetters" : Str), 10), (("BadLine" : Str), 11), (("BadLot" : Str), 12), (("BadMeets" : Str), 13), (("BadMoment" : Str), 14), (("BadNote" : Str), 15), (("BadNotes" : Str), 16), (("BadNumber" : Str), 17), (("BadNumbers" : Str), 18), (("BadPlan" : Str), 19), (("BadPledge" : Str), 20), (("BadQueues" : Str), 21), (("BadRow" : Str), 22), (("BadSaying" : Str), 23), (("BadStatement" : Str), 24), (("BadTable" : Str), 25), (("BadTrain" : Str), 48), (("BadTree" : Str), 26), (("BadWeights" : Str), 27), (("CanBe" : Str), 28), (("CanNot" : Str), 29), (("Claws" : Str), 30), (("Known" : Str), 31), (("Late" : Str), 32), (("Met" : Str), 33), (("NoGuest" : Str), 34), (("NoHall" : Str), 35), (("NoPlan" : Str), 36), (("NoTrial" : Str), 37), (("NotLayered" : Str), 38), (("NotSo" : Str), 39), (("NotSure" : Str), 40), (("NothingToRedo" : Str), 41), (("NothingToUndo" : Str), 42), (("Rings" : Str), 43), (("Same" : Str), 44), (("TooFew" : Str), 49), (("TooMany" : Str), 45), (("TooTight" : Str), 46), (("Unlike" : Str), 47)]
def mkB : List (Str × Nat) → List Sl → Out SF
  | [] => mSeq (mRet (vMove [0] 1)) mSkip
  | p :: r => mSeq (mStore 1 (mFz (m1 (isaD isaT (.own p.2)) (oVar 0))) (mDat (mC (.str p.1)))) (mkB r)
theorem marks_eq : b_law_marks = mSeq (mSet [0] 1 mD0) (mkB mkL) := rfl
def mk1 (c : Nat) (p : Str × Nat) : D × D := (.str p.1, .bl (c == p.2 || p.2 == 0))
theorem keq_str {a b : Str} : keq 0 (.str a) (.str b) = decide (a = b) := by
  have := keq0 (.inr a) (.inr b)
  unfold keyD at this
  rw [this]
  simp
theorem mkB_ok {c : Nat} {v : D} (hc : c < 50) : ∀ (r : List (Str × Nat)) (acc : List (Str × Nat)), (∀ p ∈ r, p.2 < 50) → (acc ++ r).Pairwise (fun p q => p.1 ≠ q.1) → (acc ++ r).length ≤ 1000 →
    mkB r [.d (.exc c v), .own (.dct 0 (acc.map (mk1 c)))] = .ok (.ret (.new (.dct 0 ((acc ++ r).map (mk1 c))))) [.d (.exc c v), .un]
  | [], acc, _, _, _ => by rw [List.append_nil]; rfl
  | p :: r, acc, h1, h2, h3 => by
    have hp : p.2 < 50 := h1 p (by simp)
    have hisa : isaD isaT (.own p.2) (.exc c v) = some (.val (.bl (c == p.2 || p.2 == 0))) := by
      show ((if c < 50 ∧ p.2 < 50 then some (c == p.2 || p.2 == 0) else none).map fun b => EV.val (.bl b)) = _
      rw [if_pos ⟨hc, hp⟩]; rfl
    have hno : ((acc.map (mk1 c)).any fun q => keq 0 q.1 (.str p.1)) = false := by
      rw [List.any_map, List.any_eq_false]
      intro q hq
      show ¬ keq 0 (.str q.1) (.str p.1) = true
      rw [keq_str, decide_eq_true_eq]
      exact (List.pairwise_append.mp h2).2.2 q hq p (by simp)
    have hl : acc.length < 16777216 := by simp at h3; omega
    have hst : stOb (.dct 0 (acc.map (mk1 c))) (.str p.1) (.bl (c == p.2 || p.2 == 0)) = some (.dct 0 ((acc ++ [p]).map (mk1 c))) := by
      show (if isKey 0 (.str p.1) = true ∧ (acc.map (mk1 c)).length < 16777216 then some (Ob.dct 0 (putKV 0 (acc.map (mk1 c)) (.str p.1) (.bl (c == p.2 || p.2 == 0)))) else none) = _
      rw [if_pos ⟨rfl, by rw [List.length_map]; exact hl⟩]
      unfold putKV
      rw [if_neg (by rw [hno]; exact Bool.false_ne_true), List.map_append]
      rfl
    unfold mkB
    rw [seq_next (env' := [.d (.exc c v), .own (.dct 0 ((acc ++ [p]).map (mk1 c)))]) (by
      unfold mStore
      simp [m1, fin1, oVar, mDat, mFz, mC, Out.bind, look, ofOpt, EV.fz, hisa, hst])]
    have := mkB_ok (c := c) (v := v) hc r (acc ++ [p]) (fun q hq => h1 q (by simp [hq])) (by simpa using h2) (by simpa using h3)
    rw [this]
    simp
theorem mkL_nd : mkL.Pairwise (fun p q => p.1 ≠ q.1) := by decide +kernel
theorem mkL_lt : ∀ p ∈ mkL, p.2 < 50 := by decide +kernel
def marksOf (c : Nat) : List (D × D) := mkL.map (mk1 c)
theorem marks_ok {c : Nat} {v : D} (hc : c < 50) : e_law_marks [.d (.exc c v)] = .ok (.new (.dct 0 (marksOf c))) [.d (.exc c v)] := by
  have h : b_law_marks [.d (.exc c v), .un] = .ok (.ret (.new (.dct 0 (marksOf c)))) [.d (.exc c v), .un] := by
    rw [marks_eq, seq_next (m1 := mSet [0] 1 mD0) (m2 := mkB mkL) (env := [.d (.exc c v), .un]) (env' := [.d (.exc c v), .own (.dct 0 [])]) rfl]
    exact mkB_ok hc mkL [] mkL_lt (by simpa using mkL_nd) (by decide +kernel)
  unfold e_law_marks runF
  rw [if_pos ⟨rfl, rfl⟩]
  show (match b_law_marks [.d (.exc c v), .un] with
    | .ok .next env => Out.ok (EV.val .non) (retA [0] 0 _ env)
    | .ok (.ret r) env => .ok r (retA [0] 0 _ env)
    | .exc c d env => .exc c d (retA [0] 0 _ env)
    | .bad => .bad) = _
  rw [h]; rfl

/-! ### the comprehension -/
def look1 (c : Nat) (p : Str × Nat) : Bool := c == p.2 || p.2 == 0
theorem lookL {c : Nat} : ∀ (l : List (Str × Nat)), l.Pairwise (fun p q => p.1 ≠ q.1) → ∀ p ∈ l, lookKV 0 ((l.map (mk1 c)).map (·.1)) ((l.map (mk1 c)).map (·.2)) (.str p.1) = some (.bl (look1 c p))
  | [], _, p, hp => by simp at hp
  | q :: l, h, p, hp => by
    show (if keq 0 (.str q.1) (.str p.1) = true then some (D.bl (look1 c q)) else lookKV 0 ((l.map (mk1 c)).map (·.1)) ((l.map (mk1 c)).map (·.2)) (.str p.1)) = _
    rw [keq_str]
    rcases List.mem_cons.mp hp with rfl | hp'
    · rw [decide_eq_true rfl, if_pos rfl]
    · have := (List.pairwise_cons.mp h).1 p hp'
      rw [decide_eq_false this, if_neg Bool.false_ne_true]
      exact lookL l (List.pairwise_cons.mp h).2 p hp'
abbrev cTst := mTst (m2 idxD (oVar 4) (oVar 5))
theorem comp_ok {s0 s1 s2 s3 : Sl} {c : Nat} : ∀ (l : List (Str × Nat)) (s5 : Sl), (∀ p ∈ l, p ∈ mkL) → ∃ s5', compD (.nm 5) cTst (mVar 5) [5] (l.map fun p => .str p.1) [s0, s1, s2, s3, .d (Ob.fz (.dct 0 (marksOf c))), s5] = .ok ((l.filter (look1 c)).map fun p => .str p.1) [s0, s1, s2, s3, .d (Ob.fz (.dct 0 (marksOf c))), s5']
  | [], s5, _ => ⟨s5, rfl⟩
  | p :: l, s5, h => by
    have hp := h p (by simp)
    have hix : idxD (Ob.fz (.dct 0 (marksOf c))) (.str p.1) = some (.val (.bl (look1 c p))) := by
      show (if isKey 0 (.str p.1) then (lookKV 0 ((mkL.map (mk1 c)).map (·.1)) ((mkL.map (mk1 c)).map (·.2)) (.str p.1)).map EV.val else none) = _
      rw [if_pos (show isKey 0 (D.str p.1) = true from rfl), lookL mkL mkL_nd p hp]; rfl
    have ht : cTst [s0, s1, s2, s3, .d (Ob.fz (.dct 0 (marksOf c))), .d (.str p.1)] = .ok (look1 c p) [s0, s1, s2, s3, .d (Ob.fz (.dct 0 (marksOf c))), .d (.str p.1)] := by
      generalize Ob.fz (.dct 0 (marksOf c)) = M at hix ⊢
      simp [cTst, mTst, m2, oVar, Out.bind, fin2, look, ofOpt, hix]
    obtain ⟨s5', ih⟩ := comp_ok (s0 := s0) (s1 := s1) (s2 := s2) (s3 := s3) (c := c) l (.d (.str p.1)) fun q hq => h q (by simp [hq])
    refine ⟨s5', ?_⟩
    show ((noX (cTst [s0, s1, s2, s3, .d (Ob.fz (.dct 0 (marksOf c))), .d (.str p.1)])).bind fun k e2 => if k then (noX (mVar 5 e2)).bind fun d e3 => (compD (.nm 5) cTst (mVar 5) [5] (l.map fun p => D.str p.1) e3).bind fun ds e4 => .ok (d :: ds) e4 else compD (.nm 5) cTst (mVar 5) [5] (l.map fun p => D.str p.1) e2) = _
    rw [ht]
    show (if look1 c p = true then (noX (mVar 5 [s0, s1, s2, s3, .d (Ob.fz (.dct 0 (marksOf c))), .d (.str p.1)])).bind fun d e3 => (compD (.nm 5) cTst (mVar 5) [5] (l.map fun p => D.str p.1) e3).bind fun ds e4 => .ok (d :: ds) e4 else compD (.nm 5) cTst (mVar 5) [5] (l.map fun p => D.str p.1) [s0, s1, s2, s3, .d (Ob.fz (.dct 0 (marksOf c))), .d (.str p.1)]) = _
    by_cases hb : look1 c p = true
    · rw [if_pos hb, List.filter_cons_of_pos hb]
      show ((compD (.nm 5) cTst (mVar 5) [5] (l.map fun p => D.str p.1) [s0, s1, s2, s3, .d (Ob.fz (.dct 0 (marksOf c))), .d (.str p.1)]).bind fun ds e4 => Out.ok (D.str p.1 :: ds) e4) = _
      rw [ih]; rfl
    · rw [if_neg hb, List.filter_cons_of_neg hb, ih]
end K00
end PyI

set_option Elab.async false
set_option linter.all false
set_option maxRecDepth 100000
set_option maxHeartbeats 0
/-! k00: the plain law, 3. -/
namespace PyI
namespace K00
open PySem PySem.Spec L2
set_option autoImplicit false
def nm (n : Nat) : Str := lamName (lf n).body
theorem filtB : ((List.range 49).all fun n => decide (mkL.filter (look1 (lamErr n)) = [(nm n, lamErr n)]) && decide (lamErr n < 50)) = true := by decide +kernel
theorem filt {n : Nat} (hn : n < 49) : mkL.filter (look1 (lamErr n)) = [(nm n, lamErr n)] ∧ lamErr n < 50 := by
  have := List.all_eq_true.mp filtB n (List.mem_range.mpr hn)
  simpa using this
theorem keys_eq (c : Nat) : (marksOf c).map (·.1) = mkL.map fun p => .str p.1 := by
  unfold marksOf
  rw [List.map_map]; rfl
theorem eqB_str (t : Str) : eqDB (.str t) (.str t) = some true := by
  unfold eqDB
  rw [if_pos (by simp [D.dep])]
  simp [D.py, PyData.eqv]
theorem eqB_one (t : Str) : eqDB (.lst [.str t]) (.lst [.str t]) = some true := by
  unfold eqDB
  rw [if_pos (by simp [D.dep, D.deps])]
  simp [D.py, D.pys, PyData.eqv, PyData.eqvAll]
theorem m2_ok {f : D → D → Option EV} {ma mb : List Sl → Out Ar} {env e1 e2 : List Sl} {x y : Ar} {r : EV} (ha : ma env = .ok x e1) (hb : mb e1 = .ok y e2) (h : fin2 f x y e2 = .ok r e2) : m2 f ma mb env = .ok r e2 := by
  unfold m2; rw [ha]; show (mb e1).bind _ = _; rw [hb]; exact h
theorem fz_ok {m : List Sl → Out EV} {env e1 : List Sl} {r : EV} (h : m env = .ok r e1) : mDat (mFz m) env = .ok (.dat r.fz) e1 := by
  unfold mDat mFz; rw [h]; rfl
theorem ne_self (t : Str) : neD (.str t) (.str t) = some (.val (.bl false)) := by
  unfold neD
  rw [eqB_str]; rfl
theorem eq_one (t : Str) : eqD (.lst [.str t]) (.lst [.str t]) = some (.val (.bl true)) := by
  unfold eqD
  rw [eqB_one]; rfl
theorem right_ok {n : Nat} {v : D} {t : Str} (hn : n < 49) (ht : reprT v = some t) : ∃ args, e_law_is_right [.d (.str (nm n)), .d (.clo n []), .d v] = .ok (.val (.bl true)) args := by
  obtain ⟨hf, hc⟩ := filt hn
  have key : ∃ env', b_law_is_right [.d (.str (nm n)), .d (.clo n []), .d v, .un, .un, .un] = .ok (.ret (.val (.bl true))) env' := by
    unfold b_law_is_right
    have g1 : (mSet [0, 1, 2] 3 (mApp lamF 1 (aCons (oVar 2) aNil))) [.d (.str (nm n)), .d (.clo n []), .d v, .un, .un, .un] = .ok .next [.d (.str (nm n)), .d (.clo n []), .d v, .d (.exc (lamErr n) v), .un, .un] := rfl
    rw [seq_next g1]
    have hx : excAt xk (.exc (lamErr n) v) = some (.val v) := by
      show (if xk (lamErr n) then some (EV.val v) else none) = _
      rw [if_pos (show xk (lamErr n) = true from decide_eq_true hc)]
    have hi0 : isaD isaT (.own 0) (.exc (lamErr n) v) = some (.val (.bl true)) := by
      show ((if lamErr n < 50 ∧ 0 < 50 then some (lamErr n == 0 || 0 == 0) else none).map fun b => EV.val (.bl b)) = _
      rw [if_pos ⟨hc, by decide⟩]; simp
    have hiv : isaD isaT (.ty "ValueError") (.exc (lamErr n) v) = some (.val (.bl true)) := by
      show ((if lamErr n < 50 ∧ ("ValueError" : String) = "ValueError" then some true else none).map fun b => EV.val (.bl b)) = _
      rw [if_pos ⟨hc, rfl⟩]; rfl
    have hr : reprD [v] = some (.val (.str t)) := by
      show (reprT v).map (fun t => EV.val (.str t)) = _
      rw [ht]; rfl
    have hne := ne_self t
    rw [seq_next (env' := [.d (.str (nm n)), .d (.clo n []), .d v, .d (.exc (lamErr n) v), .un, .un]) (by
      simp [mIf, bOr, bIf, bC, bNot, mTst, m1, m2, mN, finN, fin1, fin2, looks, oVar, mDat, mFz, Out.bind, look, ofOpt, EV.fz, aNil, aCons, mSkip, hx, hi0, hiv, hr, hne])]
    rw [seq_next (env' := [.d (.str (nm n)), .d (.clo n []), .d v, .d (.exc (lamErr n) v), .own (.dct 0 (marksOf (lamErr n))), .un]) (by
      have := marks_ok (c := lamErr n) (v := v) hc
      simp [mSet, mCall, callA, resAs, resA, putB, aNil, aCons, oVar, Out.bind, ofOpt, setSl, toSl, this])]
    obtain ⟨s5, hcm⟩ := comp_ok (s0 := .d (.str (nm n))) (s1 := .d (.clo n [])) (s2 := .d v) (s3 := .d (.exc (lamErr n) v)) (c := lamErr n) mkL .un fun p hp => hp
    rw [hf] at hcm
    have hk : itD (Ob.fz (.dct 0 (marksOf (lamErr n)))) = some (mkL.map fun p => .str p.1) := by
      show (if ((marksOf (lamErr n)).map (·.1)).length ≤ 16777216 then some ((marksOf (lamErr n)).map (·.1)) else none) = _
      rw [keys_eq, if_pos (by rw [List.length_map]; decide +kernel)]
    have he := eq_one (nm n)
    have hcomp : mComp (.nm 5) (mIt (mVar 4)) cTst (mVar 5) [5] [.d (.str (nm n)), .d (.clo n []), .d v, .d (.exc (lamErr n) v), .own (.dct 0 (marksOf (lamErr n))), .un] = .ok (.new (.lst [.str (nm n)])) [.d (.str (nm n)), .d (.clo n []), .d v, .d (.exc (lamErr n) v), .d (Ob.fz (.dct 0 (marksOf (lamErr n)))), .un] := by
      show (((ofOpt (itD (Ob.fz (.dct 0 (marksOf (lamErr n))))) [.d (.str (nm n)), .d (.clo n []), .d v, .d (.exc (lamErr n) v), .d (Ob.fz (.dct 0 (marksOf (lamErr n)))), .un]).bind fun xs e1 => (compD (.nm 5) cTst (mVar 5) [5] xs e1).bind fun ds e2 => .ok (.new (.lst ds)) (restE e1 e2 [5])) : Out EV) = _
      rw [hk]
      show ((compD (.nm 5) cTst (mVar 5) [5] (mkL.map fun p => D.str p.1) [.d (.str (nm n)), .d (.clo n []), .d v, .d (.exc (lamErr n) v), .d (Ob.fz (.dct 0 (marksOf (lamErr n)))), .un]).bind fun ds e2 => Out.ok (EV.new (.lst ds)) (restE [.d (.str (nm n)), .d (.clo n []), .d v, .d (.exc (lamErr n) v), .d (Ob.fz (.dct 0 (marksOf (lamErr n)))), .un] e2 [5])) = _
      rw [hcm]; rfl
    refine ⟨_, seq_ret (r := .val (.bl true)) (env' := [.d (.str (nm n)), .d (.clo n []), .d v, .d (.exc (lamErr n) v), .d (Ob.fz (.dct 0 (marksOf (lamErr n)))), .un]) ?_⟩
    have hl : mLst (aCons (mDat (mVar 0)) aNil) [.d (.str (nm n)), .d (.clo n []), .d v, .d (.exc (lamErr n) v), .d (Ob.fz (.dct 0 (marksOf (lamErr n)))), .un] = .ok (.new (.lst [.str (nm n)])) [.d (.str (nm n)), .d (.clo n []), .d v, .d (.exc (lamErr n) v), .d (Ob.fz (.dct 0 (marksOf (lamErr n)))), .un] := rfl
    have hm := m2_ok (f := eqD) (fz_ok hcomp) (fz_ok hl) (show fin2 eqD (.dat (.lst [.str (nm n)])) (.dat (.lst [.str (nm n)])) _ = .ok (.val (.bl true)) _ by
      show ofOpt (eqD (.lst [.str (nm n)]) (.lst [.str (nm n)])) _ = _
      rw [he]; rfl)
    unfold mRet
    rw [hm]; rfl
  obtain ⟨env', h⟩ := key
  refine ⟨retA [0, 1, 2] 0 [.d (.str (nm n)), .d (.clo n []), .d v] env', ?_⟩
  unfold e_law_is_right runF
  rw [if_pos ⟨rfl, rfl⟩]
  show (match b_law_is_right [.d (.str (nm n)), .d (.clo n []), .d v, .un, .un, .un] with
    | .ok .next env => Out.ok (EV.val .non) (retA [0, 1, 2] 0 _ env)
    | .ok (.ret r) env => .ok r (retA [0, 1, 2] 0 _ env)
    | .exc c d env => .exc c d (retA [0, 1, 2] 0 _ env)
    | .bad => .bad) = _
  rw [h]

/-! ### _law_odd, _law_made -/
def odds : List D := [.non, .bl true, .bl false, .int 0, .int 1, .int (-1), .int 2, .int 9, .int 10, .int 100000000000, .str "", .str "a", .tup [], .lst [], .dct 0 [] [], .tup [.int 0], .tup [.str "a"], .lst [.str "a"],
  .tup [.str "a", .str "b"], .tup [.tup []], .tup [.tup [.str "a"]], .tup [.int 1, .tup [], .tup []], .tup [.bl true, .int 1], .tup [.str "all", .tup []], .tup [.str "lot", .tup []], .tup [.str "rests", .tup []], .tup [.str "plan", .tup [.str "a"]]]
theorem odds_repr : (odds.all fun v => (reprT v).isSome) = true := by decide +kernel
theorem odd_ok {a b c : Int} (P : Pot a b c) (hc : c < 1000) : ∃ v a' c', e_law_odd [.own (pot a b c)] = .ok (.val v) [.own (pot a' b c')] ∧ (∃ t, reprT v = some t) ∧ Pot a' b c' ∧ c' ≤ c + 1 := by
  obtain ⟨v, a', c', h, hv, P', hc'⟩ := of_ok (xs := odds) P hc (by decide) (by decide)
  refine ⟨v, a', c', ?_, Option.isSome_iff_exists.mp (List.all_eq_true.mp odds_repr v hv), P', hc'⟩
  have hp : powD (.int 10) (.int 11) = some (.val (.int 100000000000)) := by rw [pow_ok (by decide) (by decide +kernel)]; rfl
  have hn : negD (.int 1) = some (.val (.int (-1))) := rfl
  unfold e_law_odd b_law_odd
  unfold odds at h
  simp [runF, okA, isOwn, retA, mSeq, m1, m2, mN, finN, fin1, fin2, looks, oVar, mDat, mFz, mC, Out.bind, look, ofOpt, EV.fz, Ob.flat, Ob.fz, mSet, setSl, toSl, mRet, mExpr, aNil, aCons, mDisp, dats, mMutL, argsOf, fExtend, mCall, callA, resAs, resA, putB, addD, mD0, hp, hn, h]
def mades : List D := (List.range 49).map fun n => .tup [.str (nm n), .clo n []]
end K00
end PyI

set_option Elab.async false
set_option linter.all false
set_option maxRecDepth 100000
set_option maxHeartbeats 0
/-! k00: the plain law, 4. -/
namespace PyI
namespace K00
open PySem PySem.Spec L2
set_option autoImplicit false
theorem made_ok : e_law_made [] = .ok (.new (.lst mades)) [] := by kernel_rfl
/-! ### loops -/
theorem forD_ok {lk : List Nat} {t : Tg} {b : List Sl → Out SF} (I : Nat → List Sl → Prop) : ∀ (xs : List D) (k : Nat), (∀ i x, xs[i]? = some x → ∀ env, I (k + i) env → ∃ e1 env', assT lk t x env = some e1 ∧ b e1 = .ok .next env' ∧ I (k + i + 1) env') → ∀ env, I k env → ∃ env', forD lk t b xs env = .ok .next env' ∧ I (k + xs.length) env'
  | [], k, _, env, h => ⟨env, rfl, h⟩
  | x :: xs, k, st, env, h => by
    obtain ⟨e1, e2, h1, h2, h3⟩ := st 0 x rfl env h
    obtain ⟨env', h4, h5⟩ := forD_ok I xs (k + 1) (fun i y hy e he => by
      have := st (i + 1) y (by simpa using hy) e (by rw [show k + (i + 1) = k + 1 + i by omega]; exact he)
      rw [show k + (i + 1) + 1 = k + 1 + i + 1 by omega] at this
      exact this) e2 h3
    refine ⟨env', ?_, by rw [List.length_cons, show k + (xs.length + 1) = k + 1 + xs.length by omega]; exact h5⟩
    unfold forD
    rw [h1]
    show mSeq b (forD lk t b xs) e1 = _
    rw [seq_next h2, h4]
/-! ### _law_pot -/
theorem log_ltN {x : Int} {k : Nat} (hk : 0 < k) (h1 : 0 ≤ x) (h2 : x < 2 ^ k) : x.natAbs.log2 < k := by
  by_cases h : x.natAbs = 0
  · rw [h]; exact hk
  · refine (Nat.log2_lt h).mpr ?_
    have e : ((x.natAbs : Nat) : Int) = x := Int.natAbs_of_nonneg h1
    have : ((x.natAbs : Nat) : Int) < ((2 ^ k : Nat) : Int) := by rw [e]; simpa using h2
    exact Int.ofNat_lt.mp this
theorem big : ∃ T M N : Int, powD (.int 10) (.int 60) = some (.val (.int T)) ∧ powD (.int T) (.int 5) = some (.val (.int M)) ∧ powD (.int 10) (.int 18) = some (.val (.int N)) ∧ 0 < M ∧ M < 2 ^ 1000 :=
  ⟨10 ^ 60, (10 ^ 60) ^ 5, 10 ^ 18, pow_ok (by decide) (by decide +kernel), pow_ok (by decide) (by decide +kernel), pow_ok (by decide) (by decide +kernel), by decide +kernel, by decide +kernel⟩
theorem sm64 {x : Int} (h1 : -(2 ^ 64) < x) (h2 : x < 2 ^ 64) : x.natAbs.log2 < 500000 := Nat.lt_trans (log_lt h1 h2) (by decide)
theorem pot_of {ns : List Int} {p : Nat} (hp : p < ns.length) (hl : ns.length ≤ 1000) : ∃ a b, e_law_pot [.d (.scr ns), .d (.int p)] = .ok (.new (pot a b 0)) [.d (.scr ns), .d (.int p)] ∧ Pot a b 0 := by
  obtain ⟨T, M, N, h60, h300, h18, M0, M1⟩ := big
  obtain ⟨cell, hcell⟩ : ∃ cell, cell = ns[p] := ⟨_, rfl⟩
  have hix : idxD (.scr ns) (.int p) = some (.val (.int cell)) := by
    show (atI ns p).map (fun n => EV.val (.int n)) = _
    unfold atI ixN
    rw [if_pos (by omega), if_pos (by omega)]
    show (ns[((p : Nat) : Int).toNat]?).map _ = _
    rw [Int.toNat_natCast, List.getElem?_eq_getElem hp, hcell]; rfl
  obtain ⟨ab, hab⟩ : ∃ ab : Int, (if cell < 0 then -cell else cell) = ab := ⟨_, rfl⟩
  have habs : absD [.int cell] = some (.val (.int ab)) := by rw [← hab]; rfl
  obtain ⟨x, hx⟩ : ∃ x, ab % M = x := ⟨_, rfl⟩
  have x0 : 0 ≤ x := by rw [← hx]; exact Int.emod_nonneg _ (by omega)
  have x1 : x < M := by rw [← hx]; exact Int.emod_lt_of_pos _ M0
  have hmod : modD (.int ab) (.int M) = some (.val (.int x)) := by
    show ((if 0 < M then some (D.int (ab % M)) else none).map EV.val) = _
    rw [if_pos M0, hx]; rfl
  obtain ⟨k, hk⟩ : ∃ k : Bool, decide (ab ≥ N) = k := ⟨_, rfl⟩
  have hge : geD (.int ab) (.int N) = some (.val (.bl k)) := by rw [← hk]; rfl
  obtain ⟨kk, hkk⟩ : ∃ kk : Int, (if k = true then (1 : Int) else 0) = kk := ⟨_, rfl⟩
  have kk0 : 0 ≤ kk ∧ kk ≤ 1 := by rw [← hkk]; cases k <;> simp
  have hint : intD [.bl k] = some (.val (.int kk)) := by rw [← hkk]; rfl
  have hmul := mul_ok (i := x) (j := kk) (Nat.lt_trans (log_ltN (k := 1000) (by decide) x0 (Int.lt_trans x1 M1)) (by decide)) (sm64 (by omega) (by omega))
  obtain ⟨z, hz⟩ : ∃ z, cell % 2305843009213693951 = z := ⟨_, rfl⟩
  have z0 : 0 ≤ z := by rw [← hz]; exact Int.emod_nonneg _ (by decide)
  have z1 : z < 2305843009213693951 := by rw [← hz]; exact Int.emod_lt_of_pos _ (by decide)
  have hmz : modD (.int cell) (.int 2305843009213693951) = some (.val (.int z)) := by
    show ((if (0 : Int) < 2305843009213693951 then some (D.int (cell % 2305843009213693951)) else none).map EV.val) = _
    rw [if_pos (by decide), hz]; rfl
  have q1 : (17651 : Int) * p ≤ 17651 * 1000 := by omega
  have q2 : (17651 : Int) * p * p ≤ 17651 * 1000 * 1000 := Int.mul_le_mul q1 (by omega) (by omega) (by omega)
  have q3 : (0 : Int) ≤ 17651 * p * p := Int.mul_nonneg (by omega) (by omega)
  have w1 := mul_ok (i := z) (j := 98033) (sm64 (by omega) (by omega)) (sm64 (by decide) (by decide))
  have w2 := mul_ok (i := 17651) (j := (p : Int)) (sm64 (by decide) (by decide)) (sm64 (by omega) (by omega))
  have w3 := mul_ok (i := 17651 * (p : Int)) (j := (p : Int)) (sm64 (by omega) (by omega)) (sm64 (by omega) (by omega))
  obtain ⟨b, hb⟩ : ∃ b, (z * 98033 + 17651 * (p : Int) * p + 6795) % 2305843009213693921 = b := ⟨_, rfl⟩
  have b0 : 0 ≤ b := by rw [← hb]; exact Int.emod_nonneg _ (by decide)
  have b1 : b < 2305843009213693921 := by rw [← hb]; exact Int.emod_lt_of_pos _ (by decide)
  have hmb : modD (.int (z * 98033 + 17651 * (p : Int) * p + 6795)) (.int 2305843009213693921) = some (.val (.int b)) := by
    show ((if (0 : Int) < 2305843009213693921 then some (D.int ((z * 98033 + 17651 * (p : Int) * p + 6795) % 2305843009213693921)) else none).map EV.val) = _
    rw [if_pos (by decide), hb]; rfl
  have hlt : ltD (.int p) (.int ns.length) = some (.val (.bl true)) := by
    show some (EV.val (.bl (decide ((p : Int) < ns.length)))) = _
    rw [decide_eq_true (by omega)]
  refine ⟨x * kk, b, ?_, ⟨Int.mul_nonneg x0 kk0.1, b0, b1, by decide⟩⟩
  unfold e_law_pot b_law_pot
  simp [runF, okA, isOwn, retA, mSeq, mIfE, mTst, m1, m2, mN, finN, fin1, fin2, looks, oVar, mDat, mFz, mC, mVar, Out.bind, look, ofOpt, EV.fz, mSet, setSl, toSl, mRet, aNil, aCons, mDisp, dats, lenD, intD, addD, h60, h300, h18, hix, habs, hmod, hge, hint, hmul, hmz, w1, w2, w3, hmb, hlt, hkk]
theorem pot_nil : ∃ a b, e_law_pot [.d (.scr []), .d (.int 0)] = .ok (.new (pot a b 0)) [.d (.scr []), .d (.int 0)] ∧ Pot a b 0 := by
  refine ⟨0, (5825 * 98033 + 6795) % 2305843009213693921, by kernel_rfl, by decide, by decide, by decide, by decide⟩
theorem pot_ok {ns : List Int} {p : Nat} (hp : p < ns.length ∨ (ns = [] ∧ p = 0)) (hl : ns.length ≤ 1000) : ∃ a b, e_law_pot [.d (.scr ns), .d (.int p)] = .ok (.new (pot a b 0)) [.d (.scr ns), .d (.int p)] ∧ Pot a b 0 := by
  rcases hp with hp | ⟨rfl, rfl⟩
  · exact pot_of hp hl
  · exact pot_nil
theorem cells_ok {ns : List Int} (hl : ns.length ≤ 1000) : ∃ ps : List Nat, (∀ p ∈ ps, p < ns.length ∨ (ns = [] ∧ p = 0)) ∧ ps.length ≤ 2 ∧ e_law_cells [.d (.scr ns), .d (.int 2)] = .ok (.new (.lst (ps.map fun p => .int (p : Nat)))) [.d (.scr ns), .d (.int 2)] := by
  match ns, hl with
  | [], _ => exact ⟨[0], by simp, by decide, rfl⟩
  | [a], _ => exact ⟨[0], by simp, by decide, rfl⟩
  | a :: b :: r, hl =>
    refine ⟨[0, 1], by simp, by decide, ?_⟩
    have h1 : min2D [.int 2, .int ((a :: b :: r).length : Nat)] = some (.val (.int 2)) := by
      show some (EV.val (.int (if (((a :: b :: r).length : Nat) : Int) < 2 then _ else 2))) = _
      rw [if_neg (by simp; omega)]
    unfold e_law_cells b_law_cells
    have h2 : max2D [.int 1, .int 2] = some (.val (.int 2)) := rfl
    generalize hlen : ((a :: b :: r).length : Nat) = n at h1 ⊢
    have h3 : lenD [.scr (a :: b :: r)] = some (.val (.int n)) := by rw [← hlen]; rfl
    simp [runF, okA, isOwn, retA, mSeq, mN, finN, looks, oVar, mDat, mFz, mC, Out.bind, look, ofOpt, EV.fz, mRet, aNil, aCons, mLRg, h1, h2, h3, rangeD, List.range, List.range.loop]
end K00
end PyI

set_option Elab.async false
set_option linter.all false
set_option maxRecDepth 100000
set_option maxHeartbeats 0
/-! k00: the plain law, 5. -/
namespace PyI
namespace K00
open PySem PySem.Spec L2
set_option autoImplicit false
abbrev body2 : List Sl → Out SF := mSeq (mIf (bNot (mTst (mCall e_law_is_right (aCons (oVar 1) (aCons (oVar 2) (aCons (oVar 3) (aNil))))))) (mSeq (mRet (mVal (mC (.bl false)))) (mSkip)) (mSkip)) (mSkip)
abbrev it2 : List Sl → Out (List D) := mIt (mFz (mLst (aCons (mDat (mFz (mCall e_law_odd (aCons (oVar 0) (aNil))))) (aCons (mDat (mFz (mCall e_law_odd (aCons (oVar 0) (aNil))))) (aCons (mDat (mFz (mTup (aCons (mDat (mC (.int 1))) (aCons (mDat (mFz (mTup (aCons (mDat (mC (.int 2))) (aCons (mDat (mC (.str "a"))) (aNil)))))) (aNil)))))) (aCons (mDat (mC (.str "x y"))) (aNil)))))))
abbrev body1 : List Sl → Out SF := mSeq (mFor [0] (.nm 3) it2 body2) mSkip
theorem right_eq : b_law_right = mSeq (mFor [0] (.tp [.nm 1, .nm 2]) (mIt (mFz (mCall e_law_made aNil))) body1) (mSeq (mSet [0] 4 (mErr 0 (mFz (mCall e_law_odd (aCons (oVar 0) (aNil)))))) (mSeq (mRet (vAnd (vNot (mAnyVals (mDat (mFz (mCall e_law_marks (aCons (oVar 4) (aNil))))))) (m1 (isaD isaT (.ty "ValueError")) (oVar 4)))) (mSkip))) := rfl
theorem body2_ok {n : Nat} {v : D} {t : Str} {s0 s4 : Sl} (hn : n < 49) (ht : reprT v = some t) : body2 [s0, .d (.str (nm n)), .d (.clo n []), .d v, s4] = .ok .next [s0, .d (.str (nm n)), .d (.clo n []), .d v, s4] := by
  obtain ⟨args, h⟩ := right_ok hn ht
  have hc : mCall e_law_is_right (aCons (oVar 1) (aCons (oVar 2) (aCons (oVar 3) (aNil)))) [s0, .d (.str (nm n)), .d (.clo n []), .d v, s4] = .ok (.val (.bl true)) [s0, .d (.str (nm n)), .d (.clo n []), .d v, s4] := by
    show (match e_law_is_right [.d (.str (nm n)), .d (.clo n []), .d v] with
      | .ok r args => Out.ok r (putB [none, none, none] args [s0, .d (.str (nm n)), .d (.clo n []), .d v, s4])
      | .exc c d args => .exc c d (putB [none, none, none] args [s0, .d (.str (nm n)), .d (.clo n []), .d v, s4])
      | .bad => .bad) = _
    rw [h]
    show Out.ok _ (putB [none, none, none] args [s0, .d (.str (nm n)), .d (.clo n []), .d v, s4]) = _
    match args with
    | [] => rfl
    | [_] => rfl
    | [_, _] => rfl
    | _ :: _ :: _ :: [] => rfl
    | _ :: _ :: _ :: _ :: _ => rfl
  simp [mSeq, mIf, bNot, mTst, hc, Out.bind, mSkip]
theorem it2_ok {a b c : Int} {s1 s2 s3 s4 : Sl} (P : Pot a b c) (hc : c < 900) : ∃ vs a' c', it2 [.own (pot a b c), s1, s2, s3, s4] = .ok vs [.own (pot a' b c'), s1, s2, s3, s4] ∧ (∀ v ∈ vs, ∃ t, reprT v = some t) ∧ vs.length = 4 ∧ Pot a' b c' ∧ c' ≤ c + 2 := by
  obtain ⟨v1, a1, c1, h1, r1, P1, e1⟩ := odd_ok P (by omega)
  obtain ⟨v2, a2, c2, h2, r2, P2, e2⟩ := odd_ok P1 (by omega)
  refine ⟨[v1, v2, .tup [.int 1, .tup [.int 2, .str "a"]], .str "x y"], a2, c2, ?_, ?_, rfl, P2, by omega⟩
  · simp [mIt, mLst, mFz, mDat, mDisp, dats, aCons, aNil, oVar, mC, mTup, mCall, callA, resAs, resA, putB, Out.bind, ofOpt, EV.fz, Ob.fz, itD, h1, h2]
  · intro v hv
    simp at hv
    rcases hv with rfl | rfl | rfl | rfl
    · exact r1
    · exact r2
    · exact Option.isSome_iff_exists.mp (by decide +kernel)
    · exact Option.isSome_iff_exists.mp (by decide +kernel)
def InvR (k : Nat) (env : List Sl) : Prop := ∃ a b c s1 s2 s3, env = [.own (pot a b c), s1, s2, s3, .un] ∧ Pot a b c ∧ c ≤ 2 * k
theorem body1_ok {n k : Nat} {a b c : Int} {s3 : Sl} (hn : n < 49) (P : Pot a b c) (hc : c ≤ 2 * k) (hk : k < 400) : ∃ env', body1 [.own (pot a b c), .d (.str (nm n)), .d (.clo n []), s3, .un] = .ok .next env' ∧ InvR (k + 1) env' := by
  obtain ⟨vs, a', c', hit, hv, _, P', hc'⟩ := it2_ok (s1 := .d (.str (nm n))) (s2 := .d (.clo n [])) (s3 := s3) (s4 := .un) P (by omega)
  obtain ⟨env', h1, s3', rfl⟩ := forD_ok (lk := [0]) (t := .nm 3) (b := body2) (fun _ env => ∃ s3, env = [.own (pot a' b c'), .d (.str (nm n)), .d (.clo n []), s3, .un]) vs 0 (fun i x hx env ⟨s3, he⟩ => by
    subst he
    obtain ⟨t, ht⟩ := hv x (List.mem_of_getElem? hx)
    exact ⟨[.own (pot a' b c'), .d (.str (nm n)), .d (.clo n []), .d x, .un], _, rfl, body2_ok hn ht, _, rfl⟩) [.own (pot a' b c'), .d (.str (nm n)), .d (.clo n []), s3, .un] ⟨s3, rfl⟩
  refine ⟨[.own (pot a' b c'), .d (.str (nm n)), .d (.clo n []), s3', .un], ?_, a', b, c', .d (.str (nm n)), .d (.clo n []), s3', rfl, P', by omega⟩
  have hf : mFor [0] (.nm 3) it2 body2 [.own (pot a b c), .d (.str (nm n)), .d (.clo n []), s3, .un] = .ok .next [.own (pot a' b c'), .d (.str (nm n)), .d (.clo n []), s3', .un] := by
    unfold mFor
    rw [hit]
    exact h1
  show mSeq (mFor [0] (.nm 3) it2 body2) mSkip _ = _
  rw [seq_next hf]; rfl
theorem any0 : bls ((marksOf 0).map (·.2)) = some ((mkL.map fun p => look1 0 p)) := by
  unfold marksOf
  rw [List.map_map]
  generalize mkL = l
  induction l with
  | nil => rfl
  | cons p l ih =>
    show ((bls (l.map ((fun x => x.2) ∘ mk1 0))).map fun r => look1 0 p :: r) = _
    rw [ih]; rfl
theorem any0F : (mkL.map fun p => look1 0 p).any id = false := by decide +kernel
theorem lright_ok {a b c : Int} (P : Pot a b c) (hc : c ≤ 0) : ∃ args, e_law_right [.own (pot a b c)] = .ok (.val (.bl true)) args := by
  have key : ∃ env', b_law_right [.own (pot a b c), .un, .un, .un, .un] = .ok (.ret (.val (.bl true))) env' := by
    obtain ⟨env', h1, a', b', c', s1, s2, s3, rfl, P', hc'⟩ := forD_ok (lk := [0]) (t := .tp [.nm 1, .nm 2]) (b := body1) InvR mades 0 (fun i x hx env ⟨a, b, c, s1, s2, s3, he, P, hc⟩ => by
      subst he
      have hi : i < 49 := by
        have := (List.getElem?_eq_some_iff.mp hx).1
        unfold mades at this
        simpa using this
      have ex : x = .tup [.str (nm i), .clo i []] := by
        unfold mades at hx
        rw [List.getElem?_map, List.getElem?_range hi] at hx
        exact (Option.some.inj hx).symm
      subst ex
      obtain ⟨env', h2, h3⟩ := body1_ok (k := 0 + i) (s3 := s3) hi P hc (by omega)
      exact ⟨_, env', rfl, h2, h3⟩) [.own (pot a b c), .un, .un, .un, .un] ⟨a, b, c, _, _, _, rfl, P, by omega⟩
    have hf : mFor [0] (.tp [.nm 1, .nm 2]) (mIt (mFz (mCall e_law_made aNil))) body1 [.own (pot a b c), .un, .un, .un, .un] = .ok .next [.own (pot a' b' c'), s1, s2, s3, .un] := by
      have hit : mIt (mFz (mCall e_law_made aNil)) [.own (pot a b c), .un, .un, .un, .un] = .ok mades [.own (pot a b c), .un, .un, .un, .un] := by
        have hm := made_ok
        have hz : mades.length ≤ 16777216 := by decide +kernel
        generalize e_law_made = F at hm ⊢
        generalize mades = M at hm hz ⊢
        simp [mIt, mFz, mCall, aNil, callA, resAs, putB, Out.bind, EV.fz, Ob.fz, itD, ofOpt, hm, hz]
      unfold mFor
      rw [hit]
      exact h1
    have hlen : mades.length = 49 := by unfold mades; simp
    rw [hlen] at hc'
    obtain ⟨v, a2, c2, h2, _, P2, _⟩ := odd_ok P' (by omega)
    rw [right_eq, seq_next hf]
    have h3 : mSet [0] 4 (mErr 0 (mFz (mCall e_law_odd (aCons (oVar 0) (aNil))))) [.own (pot a' b' c'), s1, s2, s3, .un] = .ok .next [.own (pot a2 b' c2), s1, s2, s3, .d (.exc 0 v)] := by
      generalize e_law_odd = F at h2 ⊢
      simp [mSet, mErr, mFz, mCall, aCons, aNil, oVar, callA, resAs, resA, putB, Out.bind, EV.fz, ofOpt, setSl, toSl, h2]
    rw [seq_next h3]
    have h4 := marks_ok (c := 0) (v := v) (by decide)
    have h5 : mAnyVals (mDat (mFz (mCall e_law_marks (aCons (oVar 4) (aNil))))) [.own (pot a2 b' c2), s1, s2, s3, .d (.exc 0 v)] = .ok (.val (.bl false)) [.own (pot a2 b' c2), s1, s2, s3, .d (.exc 0 v)] := by
      have hb := any0
      have hb2 := any0F
      generalize e_law_marks = F at h4 ⊢
      generalize hL : (mkL.map fun p => look1 0 p) = L at hb hb2
      generalize marksOf 0 = M at h4 hb
      simp [mAnyVals, mDat, mFz, mCall, aCons, aNil, oVar, callA, resAs, resA, putB, Out.bind, EV.fz, Ob.fz, look, ofOpt, h4, hb, hb2]
    have h6 : isaD isaT (.ty "ValueError") (.exc 0 v) = some (.val (.bl true)) := rfl
    refine ⟨_, seq_ret (r := .val (.bl true)) (env' := [.own (pot a2 b' c2), s1, s2, s3, .d (.exc 0 v)]) ?_⟩
    unfold mRet vAnd vNot
    rw [h5]
    simp [Out.bind, m1, fin1, oVar, look, ofOpt, h6]
  obtain ⟨env', h⟩ := key
  refine ⟨retA [0] 0 [.own (pot a b c)] env', ?_⟩
  unfold e_law_right runF
  rw [if_pos ⟨rfl, rfl⟩]
  show (match b_law_right [.own (pot a b c), .un, .un, .un, .un] with
    | .ok .next env => Out.ok (EV.val .non) (retA [0] 0 _ env)
    | .ok (.ret r) env => .ok r (retA [0] 0 _ env)
    | .exc c d env => .exc c d (retA [0] 0 _ env)
    | .bad => .bad) = _
  rw [h]
/-! ### law -/
theorem law_plain {ns : List Int} (hl : ns.length ≤ 63) : ∃ args, elaw [.d (.scr ns)] = .ok (.val (.bl true)) args := by
  obtain ⟨ps, hp, hpl, hcell⟩ := cells_ok (ns := ns) (by omega)
  have key : ∃ env', blaw [.d (.scr ns), .un] = .ok (.ret (.val (.bl true))) env' := by
    have hit : mIt (mFz (mCall e_law_cells (aCons (oVar 0) (aCons (mDat (mC (.int 2))) (aNil))))) [.d (.scr ns), .un] = .ok (ps.map fun p => .int (p : Nat)) [.d (.scr ns), .un] := by
      have hz : (ps.map fun p => D.int (p : Nat)).length ≤ 16777216 := by rw [List.length_map]; omega
      generalize (ps.map fun p => D.int (p : Nat)) = M at hcell hz ⊢
      simp [mIt, mFz, mDat, mC, mCall, aCons, aNil, oVar, callA, resAs, resA, putB, Out.bind, EV.fz, Ob.fz, itD, ofOpt, hcell, hz]
    obtain ⟨env', h1, s1, rfl⟩ := forD_ok (lk := [0]) (t := .nm 1) (b := (mSeq (mIf (bNot (mTst (mCallN e_law_right (mCall e_law_pot (aCons (oVar 0) (aCons (oVar 1) (aNil))))))) (mSeq (mRet (mVal (mC (.bl false)))) (mSkip)) (mSkip)) (mSkip))) (fun _ env => ∃ s1, env = [.d (.scr ns), s1]) (ps.map fun p => .int (p : Nat)) 0 (fun i x hx env ⟨s1, he⟩ => by
      subst he
      have hm := List.mem_of_getElem? hx
      obtain ⟨p, hps, rfl⟩ := List.mem_map.mp hm
      obtain ⟨a, b, h2, P⟩ := pot_ok (hp p hps) (by omega)
      obtain ⟨args, h3⟩ := lright_ok P (by decide)
      refine ⟨[.d (.scr ns), .d (.int p)], [.d (.scr ns), .d (.int p)], rfl, ?_, _, rfl⟩
      have h4 : mCallN e_law_right (mCall e_law_pot (aCons (oVar 0) (aCons (oVar 1) (aNil)))) [.d (.scr ns), .d (.int p)] = .ok (.val (.bl true)) [.d (.scr ns), .d (.int p)] := by
        simp [mCallN, mCall, aCons, aNil, oVar, callA, resAs, resA, putB, Out.bind, toSl, h2, h3]
      simp [mSeq, mIf, bNot, mTst, h4, Out.bind, mSkip]) [.d (.scr ns), .un] ⟨.un, rfl⟩
    have hf : mFor [0] (.nm 1) (mIt (mFz (mCall e_law_cells (aCons (oVar 0) (aCons (mDat (mC (.int 2))) (aNil)))))) (mSeq (mIf (bNot (mTst (mCallN e_law_right (mCall e_law_pot (aCons (oVar 0) (aCons (oVar 1) (aNil))))))) (mSeq (mRet (mVal (mC (.bl false)))) (mSkip)) (mSkip)) (mSkip)) [.d (.scr ns), .un] = .ok .next [.d (.scr ns), s1] := by
      unfold mFor
      rw [hit]
      exact h1
    refine ⟨[.d (.scr ns), s1], ?_⟩
    unfold blaw
    rw [seq_next hf]; rfl
  obtain ⟨env', h⟩ := key
  refine ⟨retA [0] 0 [.d (.scr ns)] env', ?_⟩
  unfold elaw runF
  rw [if_pos ⟨rfl, rfl⟩]
  show (match blaw [.d (.scr ns), .un] with
    | .ok .next env => Out.ok (EV.val .non) (retA [0] 0 _ env)
    | .ok (.ret r) env => .ok r (retA [0] 0 _ env)
    | .exc c d env => .exc c d (retA [0] 0 _ env)
    | .bad => .bad) = _
  rw [h]
end K00
end PyI

set_option Elab.async false
set_option linter.all false
set_option maxRecDepth 100000
set_option maxHeartbeats 0
/-! k00: the head's facts. -/
namespace PyI
namespace K00
open PySem PySem.Spec L2
set_option autoImplicit false
/-! ### what is asked of the written part, as truths -/
def fnB (K : PySem.W.Frag) (f c code : Addr) : Bool := match K.lookup f with
  | some ⟨.type "function", _, .func fd, _⟩ => decide (fd.defaults = .none) && decide (fd.kwdefaults = .none) && decide (fd.annotations = none) && decide (fd.code = .ref code) && decide (fd.closure = [(("__class__" : Str), c)])
  | _ => false
def fileB (K : PySem.W.Frag) (c : Addr) : Bool := match K.lookup c with
  | some ⟨_, _, .fields vs, _⟩ => (match (vs[2]? : Option Value) with
    | some (.str file _) => (prg.main.file : Str) == file
    | _ => false)
  | _ => false
def cellB (K : PySem.W.Frag) (c GE : Addr) : Bool := match K.lookup c with
  | some ⟨_, _, .cell (some v), _⟩ => decide (v = .ref GE)
  | _ => false
def xiB (K : PySem.W.Frag) : Bool := fnB K (xi K).fI (xi K).cc (xi K).cda && PySem.W.codeIn K (.ref (xi K).cda) (xi K).qual && fileB K (xi K).cda && cellB K (xi K).cc (xi K).GE && (PySem.W.clsIn K (xi K).GE).isSome && He.eqO (PySem.W.nsIn K mainGlobals "super") (some none) && He.eqO (PySem.W.nsIn K cStatics "thirdparty.any") (some none)
/-- the words of __init__, as the heap tells them -/
abbrev FnI : Type := Option (Str × Str × Arguments × FuncBody × Scope × Addr × Addr)
def fnI (K : PySem.W.Frag) : FnI := match K.lookup (fIn K) with
  | some ⟨_, _, .func fd, _⟩ => some (fd.name, fd.qualname, fd.params, fd.body, fd.scope, fd.globals, fd.builtins)
  | _ => none
def valI : FnI := some ("__init__", "GuestError.__init__", defArgs stI, .stmts (defBody stI), defScope stI, mainGlobals, builtinsNs)
theorem fnB_ok {K : PySem.W.Frag} (h : fnB K (xi K).fI (xi K).cc (xi K).cda = true) (hI : fnI K = valI) : ∃ od doc pm ct sl, K.lookup (xi K).fI = some ⟨.type "function", od, .func ((xi K).nf.fd doc pm ct), sl⟩ := by
  unfold fnB at h
  have hI : (match K.lookup (xi K).fI with
    | some ⟨_, _, .func fd, _⟩ => some (fd.name, fd.qualname, fd.params, fd.body, fd.scope, fd.globals, fd.builtins)
    | _ => none) = valI := hI
  split at h
  · rename_i od fd sl ho
    rw [ho] at hI
    obtain ⟨n1, n2, n3, n4, n5, n6, n7, n8, n9, n10, n11, n12, n13, n14, n15⟩ := fd
    simp only [Bool.and_eq_true, decide_eq_true_eq] at h
    obtain ⟨⟨⟨⟨h1, h2⟩, h3⟩, h4⟩, h5⟩ := h
    unfold valI at hI
    simp only [Option.some.injEq, Prod.mk.injEq] at hI
    obtain ⟨e1, e2, e3, e4, e5, e6, e7⟩ := hI
    subst h1 h2 h3 h4 h5 e1 e2 e3 e4 e5 e6 e7
    exact ⟨od, _, _, _, sl, ho⟩
  · cases h

theorem fileB_ok {K : PySem.W.Frag} {c : Addr} (h : fileB K c = true) : ∃ ccl cdd vs ccs file tf, K.lookup c = some ⟨ccl, cdd, .fields vs, ccs⟩ ∧ vs[2]? = some (.str file tf) ∧ ((prg.main.file : Str) == file) = true := by
  unfold fileB at h
  split at h
  · rename_i ccl cdd vs ccs ho
    split at h
    · rename_i file tf hv
      exact ⟨_, _, _, _, _, _, ho, hv, h⟩
    · cases h
  · cases h
theorem cellB_ok {K : PySem.W.Frag} {c GE : Addr} (h : cellB K c GE = true) : ∃ cl cld csl, K.lookup c = some ⟨cl, cld, .cell (some (.ref GE)), csl⟩ := by
  unfold cellB at h
  split at h
  · rename_i a b v d ho
    have e := of_decide_eq_true h
    subst e
    exact ⟨_, _, _, ho⟩
  · cases h
theorem xi_of {K : PySem.W.Frag} {mg : Str → Option Value} {h : Heap} (X : K.In h) (G : h.Ns mainGlobals mg) (b : xiB K = true) (hI : fnI K = valI) : XiOk prg K mg (xi K) := by
  unfold xiB at b
  simp only [Bool.and_eq_true] at b
  obtain ⟨⟨⟨⟨⟨⟨b1, b2⟩, b3⟩, b4⟩, b5⟩, b6⟩, b7⟩ := b
  exact {
    lk := fnB_ok b1 hI
    code := b2
    file := fileB_ok b3
    cell := cellB_ok b4
    cls := b5
    S := NdefX.nscope_by (show NdefX.nscB xN ["self", "value"] ["__class__"] (defScope stI) = true by decide +kernel)
    sup := (show (defScope stI).names.lookup ("super" : Str) = some .globalImplicit by decide +kernel)
    mgS := PySem.W.mg_none_of X G (He.eqO_ok b6)
    top := by decide +kernel
    par := ⟨_, rfl, rfl⟩
    bind := fun doc pm ct us hl => match us, hl with
      | [_, _], _ => rfl
    he := fun env => ⟨_, rfl⟩
    opq := He.eqO_ok b7 }
/-- a class of errors -/
def xcB (K : PySem.W.Frag) (C : Addr) : Bool :=
  PySem.W.excInitIn K C [.type "ValueError", .type "Exception", .type "BaseException", .type "object"] "ValueError.__new__" && PySem.W.hasDictIn K C && (PySem.W.clsIn K C).any (fun cd => PySem.HandSPX.refsVE (cd.mro.drop 1)) &&
  He.eqO (PySem.W.findIn K (.ref C) "__setattr__") (some (some (.builtin "object.__setattr__"))) && decide (PySem.W.subIn K (.ref C) (.type "BaseException") = some true) && decide (PySem.W.typeIn K (.ref C) = some (.type "type")) && PySem.W.keepIn K (.ref C) &&
  He.eqO (PySem.W.findIn K (.ref C) "__init__") (some (some (.ref (xi K).fI))) && decide (PySem.W.typeIn K (.ref (xi K).fI) = some (.type "function")) && decide (PySem.W.mroIn K C (.ref (xi K).GE) = some true) &&
  He.eqO (PySem.W.ks_superIn K C (xi K).GE "__init__") (some (some (.builtin "ValueError.__init__"))) && decide (PySem.W.subIn K (.ref C) (.type "ValueError") = some true) && He.eqO (PySem.W.findIn K (.ref C) "value") (some none) && xfB K C &&
  He.eqO (PySem.W.findIn K (.ref C) "__class__") (some (some (.builtin "object.__class__"))) && decide (PySem.W.mroIn K C (.type "object") = some true)
theorem xc_of {K : PySem.W.Frag} {h : Heap} {C : Addr} (X : K.In h) (b : xcB K C = true) : XcOk K (xi K) C ∧ XfC K C ∧ PySem.W.findIn K (.ref C) "value" = some none := by
  unfold xcB at b
  simp only [Bool.and_eq_true, decide_eq_true_eq] at b
  obtain ⟨⟨⟨⟨⟨⟨⟨⟨⟨⟨⟨⟨⟨⟨⟨b1, b2⟩, b3⟩, b4⟩, b5⟩, b6⟩, b7⟩, b8⟩, b9⟩, b10⟩, b11⟩, b12⟩, b13⟩, b14⟩, b15⟩, b16⟩ := b
  have hv := He.eqO_ok b13
  refine ⟨⟨⟨?_, He.eqO_ok b4, b5, b6, b7⟩, He.eqO_ok b8, b9, b10, He.eqO_ok b11, b12, hv⟩, xfB_ok b14, hv⟩
  obtain ⟨nm, N, qn, bs, bm, hdct, sn, sub, ab, col, dd, k0, k1, k2, k3, k5, hC, hT⟩ := PySem.W.excInit_of X b1
  have hl : K.lookup C = some (excClassObj nm qn C N bs bm hdct sn sub ab col dd k0 k1 k2 k3 k5 "ValueError.__new__") := by
    unfold PySem.W.excInitIn at b1
    split at b1
    · rename_i ho
      rw [X _ _ ho] at hC
      rw [ho, ← hC]
    · cases b1
  have hd : hdct = true := by
    unfold PySem.W.hasDictIn PySem.W.clsIn at b2
    rw [hl] at b2
    exact b2
  subst hd
  refine ⟨nm, qn, N, bs, bm, sn, sub, ab, col, dd, k0, k1, k2, k3, k5, hl, ?_⟩
  unfold PySem.W.clsIn at b3
  rw [hl] at b3
  exact b3

/-! ### isinstance -/
def isaOkB (K : PySem.W.Frag) : Bool := decide (PySem.W.specialIn K (.builtin "object.__class__") "__get__" = some (some (.builtin "getset_descriptor.__get__"))) && decide (PySem.W.takesIn K (.builtin "object.__class__") = some true) &&
  (List.range 50).all fun c => decide (PySem.W.kitOne K (.ref (errC K c)) (.type "ValueError") = some true) && (List.range 50).all fun k => decide (PySem.W.kitOne K (.ref (errC K c)) (.ref (errC K k)) = some (c == k || k == 0))
theorem isa_of {K : PySem.W.Frag} {T : Addr} {h : Heap} (X : K.In h) (b : isaOkB K = true) (bc : ∀ n, n < 50 → xcB K (errC K n) = true) : IsaOk K (gl K T) isaT := by
  unfold isaOkB at b
  simp only [Bool.and_eq_true, decide_eq_true_eq, List.all_eq_true, List.mem_range] at b
  obtain ⟨⟨b1, b2⟩, b3⟩ := b
  have ex : ∀ c, c < 50 → ExcC K (errC K c) := fun c hc => by
    have q := bc c hc
    have z := (xc_of X q).2.1
    unfold xcB at q
    simp only [Bool.and_eq_true, decide_eq_true_eq] at q
    exact ⟨z.ga, z.gg, z.exC, z.hdC, He.eqO_ok q.1.2, b1, b2, q.2⟩
  intro t u r hr
  cases t with
  | ty n => cases u <;> cases hr
  | ins n => cases u <;> cases hr
  | exc c =>
    cases u with
    | own k =>
      have hr : (if c < 50 ∧ k < 50 then some (c == k || k == 0) else none) = some r := hr
      split at hr
      · rename_i hck
        cases hr
        refine ⟨.ref (errC K k), ?_, errC K c, if_pos hck.1, ex c hck.1, (b3 c hck.1).2 k hck.2⟩
        show (if k < 50 then some (errC K k) else none).map Value.ref = _
        rw [if_pos hck.2]; rfl
      · cases hr
    | ty n =>
      have hr : (if c < 50 ∧ n = "ValueError" then some true else none) = some r := hr
      split at hr
      · rename_i hck
        cases hr
        obtain ⟨hc, rfl⟩ := hck
        exact ⟨.type "ValueError", rfl, errC K c, if_pos hc, ex c hc, (b3 c hc).1⟩
      · cases hr
/-! ### the Hook -/
def defs : List He.DefD := fns.map fun p => ⟨(p.1, none), p.1, p.1, defArgs (top p.2), defBody (top p.2), defScope (top p.2), [], []⟩
def tabOf (K : PySem.W.Frag) : Addr := match K.lookup (cMade K) with
  | some ⟨_, _, .fields vs, _⟩ => refOf (vs.getD 11 .none)
  | _ => 0
def headB (K : PySem.W.Frag) (c P : Addr) : Bool := match K.lookup c with
  | some ⟨.type "code", _, .fields vs, _⟩ => decide (vs[11]? = some (.ref P)) && decide (vs.getD 11 .none = .ref P) && (match vs.getD 18 .none with | .str _ _ => true | _ => false) && (match vs.getD 7 .none with | .int _ _ => true | _ => false) &&
    (match vs.getD 9 .none with | .bool _ => true | _ => false) && (match vs.getD 10 .none with | .int _ _ => true | _ => false) && !(c == P)
  | _ => false
theorem headB_ok {K : PySem.W.Frag} {c P : Addr} {h : Heap} (X : K.In h) (b : headB K c P = true) : PySem.W.CodeHd h c P := by
  unfold headB at b
  split at b
  · rename_i dd vs sl ho
    simp only [Bool.and_eq_true, decide_eq_true_eq, Bool.not_eq_true', beq_eq_false_iff_ne] at b
    obtain ⟨⟨⟨⟨⟨⟨b1, b2⟩, b3⟩, b4⟩, b5⟩, b6⟩, b7⟩ := b
    split at b3
    · rename_i file tf e3
      split at b4
      · rename_i fl tg e4
        split at b5
        · rename_i inF e5
          split at b6
          · rename_i tx tt e6
            exact ⟨_, vs, file, tf, fl, tg, inF, tx, tt, X _ _ ho, rfl, rfl, b1, b2, e3, e4, e5, e6, b7⟩
          · cases b6
        · cases b5
      · cases b4
    · cases b3
  · cases b
end K00
end PyI

set_option Elab.async false
set_option linter.all false
set_option maxRecDepth 100000
set_option maxHeartbeats 0
/-! k00: the Hook. -/
namespace PyI
namespace K00
open PySem PySem.Spec L2
set_option autoImplicit false
def kT (K0 : PySem.W.Frag) (T : Addr) : PySem.W.Frag := K0.filter fun p => !(p.1 == T)
theorem kT_look {T a : Addr} : ∀ {K0 : PySem.W.Frag}, (kT K0 T).lookup a = if a = T then none else K0.lookup a
  | [] => by unfold kT; simp
  | (b, o) :: K0 => by
    have ih := kT_look (T := T) (a := a) (K0 := K0)
    unfold kT at ih ⊢
    rw [List.filter_cons]
    by_cases hb : b = T
    · subst hb
      simp only [beq_self_eq_true, Bool.not_true, Bool.false_eq_true, if_false]
      rw [ih]
      by_cases ha : a = b
      · rw [if_pos ha, if_pos ha]
      · rw [if_neg ha, if_neg ha, List.lookup_cons, beq_eq_false_iff_ne.mpr ha]
    · have e : (!(b == T)) = true := by simp [hb]
      simp only [e, if_true, List.lookup_cons]
      by_cases ha : a = b
      · subst ha; simp [hb]
      · rw [beq_eq_false_iff_ne.mpr ha]; simpa using ih
theorem kT_in {K0 : PySem.W.Frag} {T : Addr} {h : Heap} (X : K0.In h) : (kT K0 T).In h := fun a o e => by
  rw [kT_look] at e
  split at e
  · cases e
  · exact X a o e
def tabB (K : PySem.W.Frag) (T : Addr) : Bool := match K.lookup T with
  | some ⟨.none, none, .fields vs, sl⟩ => decide (vs.toList = []) && decide (sl.toList = [])
  | _ => false
theorem tabB_ok {K : PySem.W.Frag} {T : Addr} {h : Heap} (X : K.In h) (b : tabB K T = true) : h.get? T = some { cls := .none, data := .fields #[] } := by
  unfold tabB at b
  split at b
  · rename_i vs sl ho
    simp only [Bool.and_eq_true, decide_eq_true_eq] at b
    have e1 : vs = #[] := by cases vs; simp_all
    have e2 : sl = #[] := by cases sl; simp_all
    subst e1 e2
    exact X _ _ ho
  · cases b
def factsB (K : PySem.W.Frag) (T : Addr) : Bool :=
  frees.all (fun x => He.eqO (PySem.W.nsIn K mainGlobals x) (some none)) && fns.all (fun p => He.eqO (PySem.W.nsIn K mainGlobals p.1) (some (some (.ref (fAd K p.1))))) && defs.all (fun d => d.ok K) && xiB K &&
  (List.range 50).all (fun n => xcB K (errC K n) && He.eqO (PySem.W.nsIn K mainGlobals (errName n)) (some (some (.ref (errC K n))))) && isaOkB K && decide (codeAt K (fAd K "_law_made") = .ref (cMade K)) && headB K (cMade K) T
structure Says (K : PySem.W.Frag) (T : Addr) : Prop where
  f : factsB K T = true
  w : defs.map (fun d => He.fnW K d.at_) = defs.map He.DefD.val
  i : fnI K = valI
theorem fx_of {K : PySem.W.Frag} {T : Addr} {mg : Str → Option Value} {h : Heap} (X : K.In h) (G : h.Ns mainGlobals mg) (c : Says K T) {base : Heap} (tb : LamX.TabB base mg (cMade K) T) : Fx prg K mg base T := by
  have b := c.f
  unfold factsB at b
  simp only [Bool.and_eq_true, decide_eq_true_eq, List.all_eq_true, List.mem_range] at b
  obtain ⟨⟨⟨⟨⟨⟨⟨b1, b2⟩, b3⟩, b4⟩, b5⟩, b6⟩, b7⟩, b8⟩ := b
  exact {
    fr := fun x hx => PySem.W.mg_none_of X G (He.eqO_ok (b1 x hx))
    fn := fun x i hxi => by
      obtain ⟨j, hj⟩ := List.mem_iff_getElem?.mp hxi
      have hd : defs[j]? = some ⟨(x, none), x, x, defArgs (top i), defBody (top i), defScope (top i), [], []⟩ := by
        unfold defs; rw [List.getElem?_map, hj]; rfl
      have e : (defs.map fun d => He.fnW K d.at_)[j]? = (defs.map He.DefD.val)[j]? := by rw [c.w]
      rw [List.getElem?_map, List.getElem?_map, hd] at e
      exact He.DefD.funD (Option.some.inj e) (b3 _ (List.mem_of_getElem? hd))
    gf := fun x i hxi => PySem.W.mg_of X G (He.eqO_ok (b2 _ hxi))
    xi := xi_of X G b4 c.i
    xc := fun n hn => (xc_of X (b5 n hn).1).1
    ge := fun n hn => PySem.W.mg_of X G (He.eqO_ok (b5 n hn).2)
    isa := isa_of X b6 fun n hn => (b5 n hn).1
    xf := fun n hn => (xc_of X (b5 n hn).1).2
    made := fun cdv e => by rw [← e]; exact b7
    tab := tb }
/-- what the heap tells -/
abbrev Al : Type := Bool × List He.FnW × FnI
def depthN : Nat := 6
def k0 (g : Addr → Option Obj) : PySem.W.Frag := He.frG g (cStatics :: He.asD g depthN)
def obsG (g : Addr → Option Obj) : Al :=
  (factsB (kT (k0 g) (tabOf (k0 g))) (tabOf (k0 g)) && tabB (k0 g) (tabOf (k0 g)), defs.map (fun d => He.fnW (kT (k0 g) (tabOf (k0 g))) d.at_), fnI (kT (k0 g) (tabOf (k0 g))))
def valG : Al := (true, defs.map He.DefD.val, valI)
structure SaysH (h : Heap) : Prop where
  ex : ∃ (K : PySem.W.Frag) (T : Addr), K.In h ∧ K.lookup T = none ∧ h.get? T = some { cls := .none, data := .fields #[] } ∧ PySem.W.CodeHd h (cMade K) T ∧ Says K T
def hk : PySem.W.Hook where
  α := Al
  obs := fun s => obsG s.heap.get?
  val := fun _ => valG
  says := fun _ h => SaysH h
  of := fun _ s e => by
    have X0 : (k0 s.heap.get?).In s.heap := He.frG_in
    have e1 : (factsB (kT (k0 s.heap.get?) (tabOf (k0 s.heap.get?))) (tabOf (k0 s.heap.get?)) && tabB (k0 s.heap.get?) (tabOf (k0 s.heap.get?))) = true := congrArg (fun z : Al => z.1) e
    have e2 := congrArg (fun z : Al => z.2.1) e
    have e3 := congrArg (fun z : Al => z.2.2) e
    rw [Bool.and_eq_true] at e1
    have hb := e1.1
    unfold factsB at hb
    simp only [Bool.and_eq_true] at hb
    exact ⟨_, _, kT_in X0, by rw [kT_look, if_pos rfl], tabB_ok X0 e1.2, headB_ok (kT_in X0) hb.2, e1.1, e2, e3⟩
  keeps := fun _ _ _ ⟨K, T, X, n, t, c, q⟩ k => ⟨K, T, X.keeps k, n, k _ _ t, c.keeps k, q⟩
def ob (s : PySem.W.SharedT) : Al := obsG (HandSHeadRun.getT s)
theorem ob_eq (s : PySem.W.SharedT) : ob s = hk.obs s.abs := by
  have e : HandSHeadRun.getT s = s.abs.heap.get? := funext (HandSHeadRun.getT_eq s)
  show obsG (HandSHeadRun.getT s) = obsG s.abs.heap.get?
  rw [e]
end K00
end PyI

set_option Elab.async false
set_option linter.all false
set_option maxRecDepth 100000
set_option maxHeartbeats 0
/-! k00: the run of the top. -/
namespace PyI
namespace K00
open PySem PySem.Spec L2
set_option autoImplicit false
def loose0 : List Str := ["GuestError", "BadArrival", "BadBounds", "BadDays", "BadDeed", "BadEvent", "BadForest", "BadHall", "BadJournal", "BadKeeping", "BadLetters", "BadLine", "BadLot", "BadMeets", "BadMoment", "BadNote", "BadNotes", "BadNumber", "BadNumbers", "BadPlan", "BadPledge", "BadQueues", "BadRow", "BadSaying", "BadStatement", "BadTable", "BadTree", "BadWeights", "CanBe", "CanNot"]
def loose1 : List Str := ["Claws", "Known", "Late", "Met", "NoGuest", "NoHall", "NoPlan", "NoTrial", "NotLayered", "NotSo", "NotSure", "NothingToRedo", "NothingToUndo", "Rings", "Same", "TooMany", "TooTight", "Unlike", "BadTrain", "TooFew", "_law_pot", "_law_take", "_law_of", "_law_cells", "_law_odd", "_law_made", "_law_marks", "_law_is_right", "_law_right"]
def loose : List Str := loose0 ++ loose1
abbrev R : PySem.W.OpenRow := PySem.W.OpenLaw.row PySem.Challenge.rw_cameandleft_k00_each_error_by_itself
theorem run (w : World) : HandSHeadRun.RunEq R (PySem.W.view R.prog [61]) hk ob 12000 loose w := by
  intro os
  kernel_rfl
end K00
end PyI

set_option Elab.async false
set_option linter.all false
set_option maxRecDepth 100000
set_option maxHeartbeats 0
/-! the end of a law whose def keeps its promise where no repr runs (FnG); one table. -/
namespace PyI
open PySem PySem.Spec PyProof.Rows L2
set_option autoImplicit false
/-- the abstract heap at the call: the table, the script -/
def hp0 (T a : Addr) (o : Obj) (ns : List Int) (sc : Bool) : Hp := fun b => if b = T then some (.tbl #[]) else if sc = true ∧ b = a then some (.frz o (.lst (ns.map V.int))) else none
section
variable {P : Program} {w : World} {K : PySem.W.Frag} {mg mb : Str → Option Value} {fa a c T : Addr} {s₁ : Shared} {vs : List Value} {ns : List Int} {k : Nat} {f : List Sl → Out EV} {x : Str}
theorem end_one {G : Glo} (gK : G.K = K) (gT : ∃ q, G.tabs = [(T, q)]) (KX : K.In s₁.heap) (hns : s₁.heap.Ns mainGlobals mg) (hb : s₁.heap.Ns builtinsNs mb) (hbb : ∀ x : Str, x ≠ "__name__" → mb x = bootBuiltins x) (hlim : s₁.heap.NoLimit) (hg : s₁.gens = #[])
    (hT : s₁.heap.get? T = some { cls := .none, data := .fields #[] }) (nT : K.lookup T = none) (C : PySem.W.CodeHd s₁.heap c T)
    (hbm : ∃ (bm : Addr) (ob : Obj), mg "__builtins__" = some (.ref bm) ∧ bm ≠ builtinsNs ∧ s₁.heap.get? bm = some ob ∧ ob.cls = .type "module" ∧ ob.dict = some builtinsNs ∧ ob.data = .plain)
    (ha : s₁.heap.get? a = some { cls := .type "list", data := .seq vs.toArray }) (hi : IntsAre vs ns) (hl : ns.length ≤ sizeLine) (hr : RoomG k callerA) (hfa : mg x = some (.ref fa))
    (F : ∀ base : Heap, K.In base → base.Ns mainGlobals mg → LamX.TabB base mg c T → Has P w K mg base G x k 1 f) (pl : ∃ args, f [.d (.scr ns)] = .ok (.val (.bl true)) args) :
    codeAny (model P w) callerA (.call (.ref fa) ⟨[.ref a], []⟩) (fun r s' => r = .ok (.ret (.bool true)) ∧ OldK s₁.heap s'.heap ∧ s'.os = s₁.os ∧ AllBare s'.gens) s₁ := by
  have rv := vals_ints hi
  have lenV := hi.length
  have aT : a ≠ T := fun z => by
    rw [z, hT] at ha; cases ha
  -- is the script in the written part?
  obtain ⟨sc, hsc1, hsc2⟩ : ∃ sc : Bool, (sc = true → K.lookup a = none) ∧ (sc = false → ∃ o, K.lookup a = some o) := by
    cases h : K.lookup a with
    | none => exact ⟨true, fun _ => rfl, fun z => (by cases z)⟩
    | some o => exact ⟨false, fun z => (by cases z), fun _ => ⟨o, rfl⟩⟩
  obtain ⟨H, hH⟩ : ∃ H, H = hp0 T a { cls := .type "list", data := .seq vs.toArray } ns sc := ⟨_, rfl⟩
  have HT : H T = some (.tbl #[]) := by rw [hH]; exact if_pos rfl
  have Hn : ∀ b u, H b = some u → (b = T ∧ u = .tbl #[]) ∨ (sc = true ∧ b = a ∧ u = .frz { cls := .type "list", data := .seq vs.toArray } (.lst (ns.map V.int))) := fun b u e => by
    rw [hH] at e
    unfold hp0 at e
    split at e
    · cases e; exact .inl ⟨by assumption, rfl⟩
    · split at e
      · rename_i h; cases e; exact .inr ⟨h.1, h.2, rfl⟩
      · cases e
  have hok : HOk P w H s₁.heap := fun b u e => by
    rcases Hn b u e with ⟨rfl, rfl⟩ | ⟨_, rfl, rfl⟩
    · exact hT
    · exact ⟨ha, by rw [List.length_map]; exact hl, vs, _, rv, ha⟩
  -- what is not tracked stands in the ground
  have ground : ∀ {b : Addr} {o : Obj}, s₁.heap.get? b = some o → o.data ≠ .fields #[] → (∀ us n, o.data ≠ .seq us n) → H b = none := fun {b o} e h1 h2 => by
    cases q : H b with
    | none => rfl
    | some u =>
      rcases Hn b u q with ⟨rfl, _⟩ | ⟨_, rfl, _⟩
      · rw [hT] at e; cases e; exact absurd rfl h1
      · rw [ha] at e; cases e; exact absurd rfl (h2 _ _)
  have inG : ∀ {b : Addr} {o : Obj}, s₁.heap.get? b = some o → H b = none → (hidT s₁.heap H).get? b = some o := fun e n => hidT_get e n
  have nsG : ∀ {b : Addr} {m : Str → Option Value}, s₁.heap.Ns b m → (hidT s₁.heap H).Ns b m := fun {b m} h => by
    obtain ⟨o, es, ep, e, d, r⟩ := h
    exact ⟨o, es, ep, inG e (ground e (by rw [d]; exact fun z => by cases z) (by rw [d]; exact fun _ _ z => by cases z)), d, r⟩
  have kG : K.In (hidT s₁.heap H) := fun b o e => inG (KX b o e) (by
    cases q : H b with
    | none => rfl
    | some u =>
      rcases Hn b u q with ⟨rfl, _⟩ | ⟨h, rfl, _⟩
      · rw [nT] at e; cases e
      · rw [hsc1 h] at e; cases e)
  have hM : L2.Mod K mg (hidT s₁.heap H) := by
    obtain ⟨mc, h1, h2⟩ := hlim
    exact ⟨kG, nsG hns, ⟨mb, nsG hb, hbb⟩, ⟨mc, nsG h1, h2⟩⟩
  have TB : LamX.TabB (hidT s₁.heap H) mg c T := by
    refine ⟨?_, ?_, fun z => ?_⟩
    · obtain ⟨o, us, file, tf, flags, tg, inF, text, tt, e1, r1, r2, r3, rest⟩ := C
      refine ⟨o, us, file, tf, flags, tg, inF, text, tt, inG e1 (ground e1 (fun z => ?_) fun _ _ z => ?_), r1, r2, r3, rest⟩
      · rw [r2] at z
        cases z
        simp at r3
      · rw [r2] at z; cases z
    · obtain ⟨bm, ob, b1, b2, b3, b4, b5, b6⟩ := hbm
      refine ⟨bm, ob, b1, b2, fun q => ?_, fun q => ?_, inG b3 (ground b3 (by rw [b6]; exact fun z => by cases z) (by rw [b6]; exact fun _ _ z => by cases z)), b4, b5, b6⟩
      · obtain ⟨o, es, ep, e, hd, _⟩ := hns
        rw [q, e] at b3; cases b3
        rw [hd] at b6; cases b6
      · rw [q, hT] at b3; cases b3; cases b6
    · obtain ⟨o, es, ep, e, hd, _⟩ := hns
      rw [z, hT] at e; cases e; cases hd
  have e0 : Env0 P w K mg (hidT s₁.heap H) callerA [] s₁ H := ⟨rfl, hM, fun b o e => of_hidT e, Nat.le_of_eq (hidT_size _ _), trivial, fun b hb => (by cases hb), hok, .of_eq hg⟩
  obtain ⟨fA, fd, ps, FN, bi, hk, hm, hbad⟩ := F _ kG (nsG hns) TB
  rw [hfa] at hm
  obtain rfl : fa = fA := by cases hm; rfl
  obtain ⟨q, hq⟩ := gT
  obtain ⟨args', hpl⟩ := pl
  have sp : spF G 1 f [.ref a] H (fun v _ => v = .bl true) (fun _ _ _ => False) := by
    obtain ⟨F0, hF0⟩ : ∃ F0 : Hp, F0 = fun b => if sc = true ∧ b = a then some (.frz { cls := .type "list", data := .seq vs.toArray } (.lst (ns.map V.int))) else none := ⟨_, rfl⟩
    have F0T : F0 T = none := by rw [hF0]; exact if_neg fun z => aT z.2.symm
    have sub : Same F0 H := fun b u e => by
      rw [hF0] at e
      dsimp only at e
      by_cases h : sc = true ∧ b = a
      · rw [if_pos h] at e
        cases e
        rw [hH]
        unfold hp0
        rw [if_neg (by rw [h.2]; exact aT), if_pos h]
      · rw [if_neg h] at e; cases e
    have rep : Rep G F0 (.scr ns) (.ref a) := by
      unfold Rep
      refine ⟨a, rfl, ?_⟩
      cases hsc : sc with
      | true => exact .inl (.inr ⟨_, by rw [hF0]; exact if_pos ⟨hsc, rfl⟩⟩)
      | false =>
        obtain ⟨o, ho⟩ := hsc2 hsc
        have e := KX a o ho
        rw [ha] at e
        cases e
        rw [gK]
        exact .inr ⟨_, vs.toArray, _, ho, rfl, rfl, rfl, by rw [List.size_toArray, lenV]; exact hl, by simpa using rv⟩
    refine ⟨F0, fun _ => [], [.d (.scr ns)], rfl, sub, ⟨rfl, fun i sl h => ?_, fun _ _ => rfl, fun i j b h => by simp at h, fun _ => List.nodup_nil, fun i b h => by simp at h, ?_⟩, ?_⟩
    · cases i with
      | zero => simp at h; subst h; exact ⟨rfl, _, rfl, rep⟩
      | succ i => simp at h
    · refine ⟨fun p hp => ?_, fun p hp => ?_⟩
      · rw [hq] at hp
        rw [List.mem_singleton.mp hp]
        exact LamX.TabS.nil HT
      · rw [hq] at hp
        rw [List.mem_singleton.mp hp]
        exact F0T
    · rw [hpl]
      intro F' H' own' v st E' rr
      have rr : Rep G F' (.bl true) v := rr
      unfold Rep at rr
      exact rr
  have hps : ([Value.ref a] ++ []).length = ps.length := FN.len _ _ _ _ sp
  refine codeAny_mono (FN.run callerA [] s₁ H ⟨[.ref a], []⟩ [.ref a] [.ref a] _ _ hr e0 (bi s₁ [.ref a] KX hps) (.cons rfl .nil) sp) fun r s' h => ?_
  cases r with
  | error e =>
    obtain ⟨_, _, _, _, _, _, _, _, _, _, _, _, _, _, _, _, z⟩ := h
  | ok fl =>
    cases fl with
    | next => exact False.elim h
    | brk => exact False.elim h
    | cont => exact False.elim h
    | ret u =>
      obtain ⟨v, H', os, bare, un, hok', r', q'⟩ := h
      have q' : v = .bl true := q'
      subst q'
      obtain rfl : u = Value.bool true := r'
      obtain ⟨more, hmore⟩ := un.tbls T #[] HT
      have hm2 : s'.heap.get? T = some { cls := .none, data := .fields (#[] ++ more) } := hok' T _ hmore
      have stays : ∀ b o, b ≠ T → s₁.heap.get? b = some o → s'.heap.get? b = some o := fun b o nb e => by
        cases z : H b with
        | none => exact un.keep b o e z (by intro y; cases y) (by simp)
        | some u =>
          rcases Hn b u z with ⟨h, _⟩ | ⟨_, rfl, rfl⟩
          · exact absurd h nb
          · have z2 := un.frzs b _ _ z
            rw [ha] at e; cases e
            exact (hok' b _ z2).1
      refine ⟨rfl, ⟨fun b o e => ?_, fun b o e => ?_⟩, os, bare⟩
      · by_cases hbT : b = T
        · subst hbT
          rw [hT] at e; cases e
          exact .inr (.inl ⟨(C.tab hT).isCodeTable, rfl, #[], more, rfl, hm2⟩)
        · exact .inl (stays b o hbT e)
      · by_cases hbT : b = T
        · subst hbT; exact ⟨_, hm2⟩
        · exact ⟨o, stays b o hbT e⟩
end
end PyI

set_option Elab.async false
set_option linter.all false
set_option maxRecDepth 100000
set_option maxHeartbeats 0
namespace PyI
namespace K00
open PySem PySem.Spec L2
set_option autoImplicit false
theorem law_has {w : World} {K : PySem.W.Frag} {mg : Str → Option Value} {base : Heap} {T : Addr} (hX : Fx prg K mg base T) : Has prg w K mg base (gl K T) "law" 9 1 elaw := by
  have a1 := h_law_cells (w := w) hX
  have a2 := h_law_pot (w := w) hX
  have a3 := h_law_take (w := w) hX
  have a4 := h_law_of hX a3
  have a5 := h_law_odd hX a4
  have a6 := h_law_made (w := w) hX
  have a7 := h_law_marks (w := w) hX
  have a8 := h_law_is_right hX a7
  have a9 := h_law_right hX a8 a6 a7 a5
  exact hlaw hX a1 a2 a9
end K00
end PyI
open PySem PySem.W PySem.Calls PyProof.Rows
theorem rw_cameandleft_k00_each_error_by_itself_holds : PySem.Challenge.rw_cameandleft_k00_each_error_by_itself.Holds := by
  w_on; o_law
  refine HandSHeadRun.head_any (r := OpenLaw.row PySem.Challenge.rw_cameandleft_k00_each_error_by_itself) (q := view (OpenLaw.row PySem.Challenge.rw_cameandleft_k00_each_error_by_itself).prog [61]) (H := PyI.K00.hk) (ob := PyI.K00.ob) (M := 12000) (loose := PyI.K00.loose) (d := HandSHeadRun.topDef (OpenLaw.row PySem.Challenge.rw_cameandleft_k00_each_error_by_itself).prog 61) (kwd := []) PyI.K00.ob_eq
    (by kernel_rfl) (fun s => by kernel_rfl) PyI.K00.run (by kernel_rfl) (by kernel_rfl) (by kernel_rfl) (by rfl) (by first | assumption | decide +kernel) (by decide +kernel) ⟨rfl, rfl, rfl, rfl, rfl, by decide +kernel⟩ ?hw ?hc
  case hw => w_witness2
  case hc =>
    refine Att.attach_callB (l := PySem.Challenge.rw_cameandleft_k00_each_error_by_itself) (n := 63) rfl (by kernel_rfl) fun w s₀ s₁ mg mb fa o pm cd doc a vs ns G Y ho hd hcd hmg hobj hints hlen hbits hg => ?_
    obtain ⟨K, T, KX, nT, tT, cT, says⟩ := Y
    have hmg2 : mg ("law" : PySem.Str) = some (.ref fa) := by
      have e : (HandSHeadRun.topDef (OpenLaw.row PySem.Challenge.rw_cameandleft_k00_each_error_by_itself).prog 61).name = ("law" : PySem.Str) := by kernel_rfl
      rw [← e]
      exact hmg
    exact PyI.end_one (G := PyI.K00.gl K T) (k := 9) rfl ⟨_, rfl⟩ KX G.T.g G.T.b G.T.builtins G.T.nolimit hg tT nT cT G.T.bmain hobj hints (Nat.le_trans hlen (by decide)) ⟨⟨rfl, by decide, by decide⟩, rfl⟩ hmg2 (fun base X1 N1 TB => PyI.K00.law_has (PyI.K00.fx_of KX G.T.g says TB)) (PyI.K00.law_plain hlen)

theorem PySem.Challenge.cw_cameandleft_k00_each_error_by_itself_holds : PySem.Challenge.rw_cameandleft_k00_each_error_by_itself.Holds :=
  _root_.rw_cameandleft_k00_each_error_by_itself_holds
