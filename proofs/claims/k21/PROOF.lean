import PyProof.Rows.All
import Wide.All
import OpenK.AllK
import Wide.FinOn
import HandS.ForMost
import HandS.ForExc
import HandS.Head0
import HandS.Head1
import HandS.Head2
import HandS.HeadEnd
import HandS.HeadHook1
import HandS.HeadHook2
import HandS.TupAny
import HandS.Wide
import HandS.TupLe
import HandS.Deep
import PyProof.NeData
import HandS.Defaults
import HandS.ExcOwn
import HandS.Style
import HandS.IsInst
import HandS.Flt
import HandS.More
import HandS.Replace
import HandS.TupMul
import HandS.Small
import PyProof.StrOps2
import HandS.ExcInit
import HandS.ExcField
import KE.KExcSuper
import HandS.Text
import HandS.Strs
import HandS.TryOnly
import HandS.SortInts
import PyProof.Rows.StrMeet
import HandS.Set
import HandS.SetFor
import HandS.SetKeys
import PyProof.Rows.SortShellAny
import HandS.Zip
import KE.GoesRaise
import PyProof.Rows.StrFin3
import PySem.Challenge.RW_postingstold_k21_whole_cursors_that_skip
set_option Elab.async false
set_option linter.all false
set_option maxRecDepth 100000
set_option maxHeartbeats 4000000
/-! # The mirror layer: data trees over the hand layer's heap -/
namespace MI
open PySem L2

/-- data: what a value is, lists and dicts in it never change any more; ref: an object of the shared store; scr: the law's own script -/
inductive D where
  | non | bl (b : Bool) | int (i : Int) | str (x : Str)
  | tup (xs : List D) | lst (xs : List D) | dic (kvs : List (Key × D)) | ref (n : Nat) | scr (xs : List D)
  deriving Inhabited

/-- an object that may change -/
inductive MObj where
  | lst (xs : List D) | dic (kvs : List (Key × D)) | ins (c : Str) (fs : List (Str × D))
  deriving Inhabited
inductive Slot where
  | none | val (x : D) | own (o : MObj)
  deriving Inhabited
structure S where
  env : List Slot
  gl : List MObj
inductive Loc where
  | sl (i : Nat) | gl (n : Nat)
  deriving DecidableEq
/-- a value of an expression: data; the object that a slot owns; a new object -/
inductive RV where
  | d (x : D) | at (i : Nat) | new (o : MObj)
inductive Res (α : Type) where
  | ok (a : α) (s : S) | exc (c : Str) (p : D) (s : S) | stuck
inductive Out where
  | nx | rt (x : D) | bk | ct

def cellOf (s : S) : Loc → Option MObj
  | .sl i => match s.env[i]? with
    | some (.own o) => some o
    | _ => none
  | .gl n => s.gl[n]?

/-- what stands unchanged for good; what is another one's; where the objects are, how many are shared -/
structure G where
  F : Hp
  P : Addr → Prop
  adr : Loc → Addr
  ng : Nat

mutual
inductive Rep (K : PySem.W.Frag) (g : G) : V → D → Prop
  | non : Rep K g .non .non
  | bl (b : Bool) : Rep K g (.bl b) (.bl b)
  | int (i : Int) : Rep K g (.int i) (.int i)
  | str (x : Str) : Rep K g (.str x) (.str x)
  | tup {a : Addr} {vs : List V} {ds : List D} : SqT K g.F a vs → RepL K g vs ds → Rep K g (.ref a) (.tup ds)
  | lst {a : Addr} {vs : List V} {ds : List D} : g.F a = some (.lst vs) → RepL K g vs ds → Rep K g (.ref a) (.lst ds)
  | dic {a : Addr} {kvs : List (Key × V)} {ds : List (Key × D)} : g.F a = some (.dK kvs) → RepK K g kvs ds → Rep K g (.ref a) (.dic ds)
  | ref (n : Nat) : n < g.ng → Rep K g (.ref (g.adr (.gl n))) (.ref n)
  | scr {a : Addr} {vs : List V} {ds : List D} : SqL K g.F a vs → RepL K g vs ds → Rep K g (.ref a) (.scr ds)
inductive RepL (K : PySem.W.Frag) (g : G) : List V → List D → Prop
  | nil : RepL K g [] []
  | cons {v : V} {vs : List V} {d : D} {ds : List D} : Rep K g v d → RepL K g vs ds → RepL K g (v :: vs) (d :: ds)
inductive RepK (K : PySem.W.Frag) (g : G) : List (Key × V) → List (Key × D) → Prop
  | nil : RepK K g [] []
  | cons {k : Key} {v : V} {vs : List (Key × V)} {d : D} {ds : List (Key × D)} : Rep K g v d → RepK K g vs ds → RepK K g ((k, v) :: vs) ((k, d) :: ds)
end
inductive RepF (K : PySem.W.Frag) (g : G) : List (Str × V) → List (Str × D) → Prop
  | nil : RepF K g [] []
  | cons {k : Str} {v : V} {vs : List (Str × V)} {d : D} {ds : List (Str × D)} : Rep K g v d → RepF K g vs ds → RepF K g ((k, v) :: vs) ((k, d) :: ds)

def Sub (F H : Hp) : Prop := ∀ a o, F a = some o → H a = some o
theorem Sub.refl (F : Hp) : Sub F F := fun _ _ e => e
theorem Sub.trans {F G H : Hp} (a : Sub F G) (b : Sub G H) : Sub F H := fun x o e => b x o (a x o e)
/-- the later ghost -/
structure GLe (g g' : G) : Prop where
  F : Sub g.F g'.F
  ng : g.ng ≤ g'.ng
  adr : ∀ n, n < g.ng → g'.adr (.gl n) = g.adr (.gl n)
theorem GLe.refl (g : G) : GLe g g := ⟨Sub.refl _, Nat.le_refl _, fun _ _ => rfl⟩
theorem GLe.trans {a b c : G} (x : GLe a b) (y : GLe b c) : GLe a c :=
  ⟨x.F.trans y.F, Nat.le_trans x.ng y.ng, fun n h => (y.adr n (Nat.lt_of_lt_of_le h x.ng)).trans (x.adr n h)⟩

theorem rd_mono {F H : Hp} (s : Sub F H) {a : Addr} {u : HO} (r : Rd F a u) : Rd H a u := by
  rcases r with r | ⟨o, r⟩
  · exact .inl (s _ _ r)
  · exact .inr ⟨o, s _ _ r⟩
theorem sqT_mono {K : PySem.W.Frag} {F H : Hp} (s : Sub F H) {a : Addr} {xs : List V} (r : SqT K F a xs) : SqT K H a xs := by
  rcases r with r | r
  · exact .inl (rd_mono s r)
  · exact .inr r
theorem sqL_mono {K : PySem.W.Frag} {F H : Hp} (s : Sub F H) {a : Addr} {xs : List V} (r : SqL K F a xs) : SqL K H a xs := by
  rcases r with r | r
  · exact .inl (rd_mono s r)
  · exact .inr r

section
variable {K : PySem.W.Frag} {g g' : G}
mutual
theorem Rep.mono (l : GLe g g') : ∀ {v : V} {d : D}, Rep K g v d → Rep K g' v d
  | _, _, .non => .non
  | _, _, .bl b => .bl b
  | _, _, .int i => .int i
  | _, _, .str x => .str x
  | _, _, .tup h r => .tup (sqT_mono l.F h) (RepL.mono l r)
  | _, _, .lst h r => .lst (l.F _ _ h) (RepL.mono l r)
  | _, _, .dic h r => .dic (l.F _ _ h) (RepK.mono l r)
  | _, _, .scr h r => .scr (sqL_mono l.F h) (RepL.mono l r)
  | _, _, .ref n h => by rw [← l.adr n h]; exact .ref n (Nat.lt_of_lt_of_le h l.ng)
theorem RepL.mono (l : GLe g g') : ∀ {v : List V} {d : List D}, RepL K g v d → RepL K g' v d
  | _, _, .nil => .nil
  | _, _, .cons a b => .cons (Rep.mono l a) (RepL.mono l b)
theorem RepK.mono (l : GLe g g') : ∀ {v : List (Key × V)} {d : List (Key × D)}, RepK K g v d → RepK K g' v d
  | _, _, .nil => .nil
  | _, _, .cons a b => .cons (Rep.mono l a) (RepK.mono l b)
end
theorem RepF.mono (l : GLe g g') : ∀ {v : List (Str × V)} {d : List (Str × D)}, RepF K g v d → RepF K g' v d
  | _, _, .nil => .nil
  | _, _, .cons a b => .cons (Rep.mono l a) (RepF.mono l b)

theorem RepL.length : ∀ {v : List V} {d : List D}, RepL K g v d → v.length = d.length
  | _, _, .nil => rfl
  | _, _, .cons _ b => by rw [List.length_cons, List.length_cons, RepL.length b]
theorem RepL.append : ∀ {v w : List V} {d e : List D}, RepL K g v d → RepL K g w e → RepL K g (v ++ w) (d ++ e)
  | _, _, _, _, .nil, h => h
  | _, _, _, _, .cons a b, h => .cons a (RepL.append b h)
theorem RepL.one {v : V} {d : D} (h : Rep K g v d) : RepL K g [v] [d] := .cons h .nil
theorem RepL.take : ∀ {v : List V} {d : List D} (n : Nat), RepL K g v d → RepL K g (v.take n) (d.take n)
  | _, _, 0, _ => .nil
  | _, _, _ + 1, .nil => .nil
  | _, _, n + 1, .cons a b => .cons a (RepL.take n b)
theorem RepL.drop : ∀ {v : List V} {d : List D} (n : Nat), RepL K g v d → RepL K g (v.drop n) (d.drop n)
  | _, _, 0, h => h
  | _, _, _ + 1, .nil => .nil
  | _, _, n + 1, .cons _ b => RepL.drop n b
theorem RepL.get : ∀ {v : List V} {d : List D} {i : Nat} {x : D}, RepL K g v d → d[i]? = some x → ∃ u, v[i]? = some u ∧ Rep K g u x
  | _, _, _, _, .nil, e => by simp at e
  | _, _, 0, _, .cons a b, e => by simp at e; subst e; exact ⟨_, rfl, a⟩
  | _, _, i + 1, x, .cons a b, e => by
    obtain ⟨u, h1, h2⟩ := RepL.get (i := i) (x := x) b (by simpa using e)
    exact ⟨u, by simpa using h1, h2⟩
theorem RepL.get' : ∀ {v : List V} {d : List D} {i : Nat} {u : V}, RepL K g v d → v[i]? = some u → ∃ x, d[i]? = some x ∧ Rep K g u x
  | _, _, _, _, .nil, e => by simp at e
  | _, _, 0, _, .cons a b, e => by simp at e; subst e; exact ⟨_, rfl, a⟩
  | _, _, i + 1, x, .cons a b, e => by
    obtain ⟨u, h1, h2⟩ := RepL.get' (i := i) (u := x) b (by simpa using e)
    exact ⟨u, by simpa using h1, h2⟩
theorem RepL.set {x : D} {u : V} (h : Rep K g u x) : ∀ {v : List V} {d : List D} (i : Nat), RepL K g v d → RepL K g (v.set i u) (d.set i x)
  | _, _, _, .nil => .nil
  | _, _, 0, .cons _ b => .cons h b
  | _, _, i + 1, .cons a b => .cons a (RepL.set h i b)
theorem RepL.reverse {v : List V} {d : List D} (h : RepL K g v d) : RepL K g v.reverse d.reverse := by
  induction v generalizing d with
  | nil => cases h; exact .nil
  | cons a v ih =>
    cases h with
    | cons x y =>
      rw [List.reverse_cons, List.reverse_cons]
      exact (ih y).append (.one x)
theorem RepL.eraseIdx : ∀ {v : List V} {d : List D} (i : Nat), RepL K g v d → RepL K g (v.eraseIdx i) (d.eraseIdx i)
  | _, _, _, .nil => .nil
  | _, _, 0, .cons _ b => b
  | _, _, i + 1, .cons a b => .cons a (RepL.eraseIdx i b)
end

/-- an object of the store at an address -/
def ObjRep (K : PySem.W.Frag) (g : G) (H : Hp) (a : Addr) : MObj → Prop
  | .lst xs => ∃ vs, H a = some (.lst vs) ∧ RepL K g vs xs
  | .dic kvs => ∃ vs, H a = some (.dK vs) ∧ RepK K g vs kvs
  | .ins c fs => ∃ dx vs, H a = some (.ins (He.ga K c) dx vs) ∧ RepF K g vs fs
theorem ObjRep.some {K : PySem.W.Frag} {g : G} {H : Hp} {a : Addr} {o : MObj} (h : ObjRep K g H a o) : ∃ u, H a = Option.some u := by
  cases o with
  | lst xs => obtain ⟨vs, e, _⟩ := h; exact ⟨_, e⟩
  | dic xs => obtain ⟨vs, e, _⟩ := h; exact ⟨_, e⟩
  | ins c fs => obtain ⟨dx, vs, e, _⟩ := h; exact ⟨_, e⟩
theorem ObjRep.mono {K : PySem.W.Frag} {g g' : G} {H H' : Hp} {a : Addr} {o : MObj} (l : GLe g g') (e : H' a = H a) (h : ObjRep K g H a o) : ObjRep K g' H' a o := by
  cases o with
  | lst xs => obtain ⟨vs, q, r⟩ := h; exact ⟨vs, e.trans q, r.mono l⟩
  | dic xs => obtain ⟨vs, q, r⟩ := h; exact ⟨vs, e.trans q, r.mono l⟩
  | ins c fs => obtain ⟨dx, vs, q, r⟩ := h; exact ⟨dx, vs, e.trans q, r.mono l⟩

def SlotRep (K : PySem.W.Frag) (g : G) (σ : St) (i : Nat) : Slot → Prop
  | .none => True
  | .val d => ∃ v, σ[i]? = some (some v) ∧ Rep K g v d
  | .own _ => σ[i]? = some (some (.ref (g.adr (.sl i))))

def Live (g : G) (s : S) (a : Addr) : Prop := ∃ l o, cellOf s l = some o ∧ g.adr l = a
/-- the state s is what the slots and the heap are -/
structure Ok (K : PySem.W.Frag) (g : G) (s : S) (σ : St) (H : Hp) : Prop where
  sub : Sub g.F H
  cell : ∀ l o, cellOf s l = some o → g.F (g.adr l) = none ∧ ObjRep K g H (g.adr l) o
  inj : ∀ l l' o o', cellOf s l = some o → cellOf s l' = some o' → g.adr l = g.adr l' → l = l'
  env : ∀ i x, s.env[i]? = some x → SlotRep K g σ i x
  len : s.env.length = σ.length
  ng : g.ng = s.gl.length
  prot : ∀ a, g.P a → (∃ u, H a = some u) ∧ g.F a = none ∧ ¬ Live g s a

/-- from (g, H) to (g', H') -/
structure Step (g : G) (H : Hp) (g' : G) (H' : Hp) : Prop where
  le : GLe g g'
  P : g'.P = g.P
  keep : ∀ a, g.P a → H' a = H a
theorem Step.refl (g : G) (H : Hp) : Step g H g H := ⟨GLe.refl _, rfl, fun _ _ => rfl⟩
theorem Step.trans {g g' g'' : G} {H H' H'' : Hp} (a : Step g H g' H') (b : Step g' H' g'' H'') : Step g H g'' H'' :=
  ⟨a.le.trans b.le, b.P.trans a.P, fun x p => (b.keep x (by rw [a.P]; exact p)).trans (a.keep x p)⟩

def RepRV (K : PySem.W.Frag) (g : G) (s : S) (H : Hp) (v : V) : RV → Prop
  | .d x => Rep K g v x
  | .at i => v = .ref (g.adr (.sl i))
  | .new o => ∃ a, v = .ref a ∧ g.F a = none ∧ ¬ g.P a ∧ ¬ Live g s a ∧ ObjRep K g H a o
/-- slots' objects stay at their places -/
def SlKeep (g g' : G) : Prop := ∀ i, g'.adr (.sl i) = g.adr (.sl i)
theorem SlKeep.refl (g : G) : SlKeep g g := fun _ => rfl
theorem SlKeep.trans {a b c : G} (x : SlKeep a b) (y : SlKeep b c) : SlKeep a c := fun i => (y i).trans (x i)

/-! ### what follows a part -/
abbrev M := S → Res RV
/-- an exception: the class by name, its one field (as a pair of its name and its value), or none -/
def ExcRep (K : PySem.W.Frag) (g : G) (H : Hp) (cls : Value) (d : Option Addr) (c : Str) (p : D) : Prop :=
  cls = .ref (He.ga K c) ∧ ((d = none ∧ p = .non) ∨ ∃ dx f v q, d = some dx ∧ H dx = some (.xd [(f, v)]) ∧ p = .tup [.str f, q] ∧ Rep K g v q)
theorem ExcRep.mono {K : PySem.W.Frag} {g g' : G} {H : Hp} {cls : Value} {d : Option Addr} {c : Str} {p : D} (l : GLe g g') (h : ExcRep K g H cls d c p) : ExcRep K g' H cls d c p := by
  obtain ⟨h1, h2 | ⟨dx, f, v, q, e1, e2, e3, r⟩⟩ := h
  · exact ⟨h1, .inl h2⟩
  · exact ⟨h1, .inr ⟨dx, f, v, q, e1, e2, e3, r.mono l⟩⟩
def PostE (K : PySem.W.Frag) (W : WX) (σ : St) (g : G) (s : S) (H : Hp) {α : Type} (k : α → G → S → Hp → Prop) : Res α → Prop
  | .ok a s' => ∀ g' H', Step g H g' H' → SlKeep g g' → Ok K g' s' σ H' → k a g' s' H'
  | .exc c p s' => ∀ cls d g' H', Step g H g' H' → SlKeep g g' → Ok K g' s' σ H' → ExcRep K g' H' cls d c p → W cls d σ H'
  | .stuck => False
abbrev kE (K : PySem.W.Frag) (Q : VK) : RV → G → S → Hp → Prop := fun r g s H => ∀ v, RepRV K g s H v r → Q v H
abbrev kL (K : PySem.W.Frag) (Q : List V → Hp → Prop) : List D → G → S → Hp → Prop := fun r g _ H => ∀ v, RepL K g v r → Q v H
abbrev kB (Q : Bool → Hp → Prop) : Bool → G → S → Hp → Prop := fun r _ _ H => Q r H
/-- mirrors as readings: an expression, an argument list, a test -/
def tM (K : PySem.W.Frag) (W : WX) (m : M) : TE := fun σ H Q => ∃ g s, Ok K g s σ H ∧ PostE K W σ g s H (kE K Q) (m s)
def tMA (K : PySem.W.Frag) (W : WX) (m : S → Res (List D)) : TA := fun σ H Q => ∃ g s, Ok K g s σ H ∧ PostE K W σ g s H (kL K Q) (m s)
def tMT (K : PySem.W.Frag) (W : WX) (m : S → Res Bool) : TT := fun σ H Q => ∃ g s, Ok K g s σ H ∧ PostE K W σ g s H (kB Q) (m s)
def ME (X : Cx) (W : WX) (e : Expr) (m : M) : Prop := PE X e (tM X.K W m)
def MA (X : Cx) (W : WX) (es : List Expr) (m : S → Res (List D)) : Prop := PA X es (tMA X.K W m)
def MT (X : Cx) (W : WX) (e : Expr) (m : S → Res Bool) : Prop := PT X e (tMT X.K W m)

def PostS (K : PySem.W.Frag) (W : WX) (g : G) (s : S) (H : Hp) (D : Ends) : Res Out → Prop
  | .ok .nx s' => ∀ σ' g' H', Step g H g' H' → Ok K g' s' σ' H' → D.nx σ' H'
  | .ok .bk s' => ∀ σ' g' H', Step g H g' H' → Ok K g' s' σ' H' → D.bk σ' H'
  | .ok .ct s' => ∀ σ' g' H', Step g H g' H' → Ok K g' s' σ' H' → D.ct σ' H'
  | .ok (.rt d) s' => ∀ v σ' g' H', Step g H g' H' → Ok K g' s' σ' H' → Rep K g' v d → D.rt v H'
  | .exc c p s' => ∀ σ' cls d g' H', Step g H g' H' → Ok K g' s' σ' H' → ExcRep K g' H' cls d c p → W cls d σ' H'
  | .stuck => False
def tMS (K : PySem.W.Frag) (W : WX) (m : S → Res Out) : TS := fun D σ H => ∃ g s, Ok K g s σ H ∧ PostS K W g s H D (m s)
def MS (X : Cx) (W : WX) (st : Stmt) (m : S → Res Out) : Prop := PS X st (tMS X.K W m)
def MSs (X : Cx) (W : WX) (st : List Stmt) (m : S → Res Out) : Prop := PSs X st (tMS X.K W m)

theorem pe_imp {X : Cx} {e : Expr} {t t' : TE} (h : PE X e t) (i : ∀ σ H Q, t' σ H Q → t σ H Q) : PE X e t' :=
  ⟨fun pins s σ H Q I q => h.run pins s σ H Q I (i σ H Q q)⟩
theorem pt_imp {X : Cx} {e : Expr} {t t' : TT} (h : PT X e t) (i : ∀ σ H Q, t' σ H Q → t σ H Q) : PT X e t' :=
  ⟨fun pins s σ H Q I q => h.run pins s σ H Q I (i σ H Q q)⟩
theorem pa_imp {X : Cx} {e : List Expr} {t t' : TA} (h : PA X e t) (i : ∀ σ H Q, t' σ H Q → t σ H Q) : PA X e t' :=
  ⟨fun pos pins s σ H Q I q => h.run pos pins s σ H Q I (i σ H Q q)⟩
theorem ps_imp {X : Cx} {e : Stmt} {t t' : TS} (h : PS X e t) (i : ∀ D σ H, t' D σ H → t D σ H) : PS X e t' :=
  ⟨fun pins s σ H D I q => h.run pins s σ H D I (i D σ H q)⟩
theorem pss_imp {X : Cx} {e : List Stmt} {t t' : TS} (h : PSs X e t) (i : ∀ D σ H, t' D σ H → t D σ H) : PSs X e t' :=
  ⟨fun pins s σ H D I q => h.run pins s σ H D I (i D σ H q)⟩

def Res.bind {α β : Type} (r : Res α) (f : α → S → Res β) : Res β := match r with
  | .ok a s => f a s
  | .exc c p s => .exc c p s
  | .stuck => .stuck
@[simp] theorem Res.bind_ok {α β : Type} (a : α) (s : S) (f : α → S → Res β) : (Res.ok a s).bind f = f a s := rfl
@[simp] theorem Res.bind_exc {α β : Type} (c : Str) (p : D) (s : S) (f : α → S → Res β) : (Res.exc c p s).bind f = .exc c p s := rfl
@[simp] theorem Res.bind_stuck {α β : Type} (f : α → S → Res β) : (Res.stuck : Res α).bind f = .stuck := rfl

section
variable {K : PySem.W.Frag} {W : WX} {σ : St} {g : G} {s : S} {H : Hp} {α β : Type} {k : α → G → S → Hp → Prop} {D : Ends}
theorem PostE.mono {k' : α → G → S → Hp → Prop} {r : Res α} (h : PostE K W σ g s H k r)
    (i : ∀ a g' s' H', Step g H g' H' → SlKeep g g' → Ok K g' s' σ H' → k a g' s' H' → k' a g' s' H') : PostE K W σ g s H k' r := by
  cases r with
  | ok a s' => exact fun g' H' t sk o => i _ _ _ _ t sk o (h g' H' t sk o)
  | exc c p s' => exact h
  | stuck => exact h
theorem PostE.bind {r : Res β} {f : β → S → Res α} (h : PostE K W σ g s H k (r.bind f)) :
    PostE K W σ g s H (fun b g' s' H' => PostE K W σ g' s' H' k (f b s')) r := by
  cases r with
  | ok b s' =>
    intro g' H' t sk o
    have h' : PostE K W σ g s H k (f b s') := h
    show PostE K W σ g' s' H' k (f b s')
    cases e : f b s' with
    | ok a s'' => rw [e] at h'; exact fun g'' H'' t' sk' o' => h' g'' H'' (t.trans t') (sk.trans sk') o'
    | exc c p s'' => rw [e] at h'; exact fun cls d g'' H'' t' sk' o' x => h' cls d g'' H'' (t.trans t') (sk.trans sk') o' x
    | stuck => rw [e] at h'; exact h'
  | exc c p s' => exact h
  | stuck => exact h
/-- a part that only turns the ghost -/
theorem PostE.ghost {r : Res α} {g' : G} {s' : S} (h : PostE K W σ g s H k r) (t : Step g H g' H) (sk : SlKeep g g') : PostE K W σ g' s' H k r := by
  cases r with
  | ok a s'' => exact fun g'' H'' t' sk' o' => h g'' H'' (t.trans t') (sk.trans sk') o'
  | exc c p s'' => exact fun cls d g'' H'' t' sk' o' x => h cls d g'' H'' (t.trans t') (sk.trans sk') o' x
  | stuck => exact h
theorem PostE.after {r : Res α} {g' : G} {s' : S} {H' : Hp} (h : PostE K W σ g s H k r) (t : Step g H g' H') (sk : SlKeep g g') : PostE K W σ g' s' H' k r := by
  cases r with
  | ok a s'' => exact fun g'' H'' t' sk' o' => h g'' H'' (t.trans t') (sk.trans sk') o'
  | exc c p s'' => exact fun cls d g'' H'' t' sk' o' x => h cls d g'' H'' (t.trans t') (sk.trans sk') o' x
  | stuck => exact h
theorem PostE.done {a : α} (h : PostE K W σ g s H k (.ok a s)) (o : Ok K g s σ H) : k a g s H := h g H (Step.refl _ _) (SlKeep.refl _) o
theorem PostS.bind {r : Res β} {f : β → S → Res Out} (h : PostS K W g s H D (r.bind f)) :
    PostE K W σ g s H (fun b g' s' H' => PostS K W g' s' H' D (f b s')) r := by
  cases r with
  | ok b s' =>
    intro g' H' t sk o
    have h' : PostS K W g s H D (f b s') := h
    show PostS K W g' s' H' D (f b s')
    cases e : f b s' with
    | ok a s'' =>
      rw [e] at h'
      cases a with
      | nx => exact fun σ'' g'' H'' t' o' => h' σ'' g'' H'' (t.trans t') o'
      | bk => exact fun σ'' g'' H'' t' o' => h' σ'' g'' H'' (t.trans t') o'
      | ct => exact fun σ'' g'' H'' t' o' => h' σ'' g'' H'' (t.trans t') o'
      | rt d => exact fun v σ'' g'' H'' t' o' x => h' v σ'' g'' H'' (t.trans t') o' x
    | exc c p s'' => rw [e] at h'; exact fun σ'' cls d g'' H'' t' o' x => h' σ'' cls d g'' H'' (t.trans t') o' x
    | stuck => rw [e] at h'; exact h'
  | exc c p s' => exact fun cls d g' H' t sk o x => h σ cls d g' H' t o x
  | stuck => exact h
theorem PostS.after {r : Res Out} {g' : G} {s' : S} {H' : Hp} (h : PostS K W g s H D r) (t : Step g H g' H') : PostS K W g' s' H' D r := by
  cases r with
  | ok a s'' =>
    cases a with
    | nx => exact fun σ'' g'' H'' t' o' => h σ'' g'' H'' (t.trans t') o'
    | bk => exact fun σ'' g'' H'' t' o' => h σ'' g'' H'' (t.trans t') o'
    | ct => exact fun σ'' g'' H'' t' o' => h σ'' g'' H'' (t.trans t') o'
    | rt d => exact fun v σ'' g'' H'' t' o' x => h v σ'' g'' H'' (t.trans t') o' x
  | exc c p s'' => exact fun σ'' cls d g'' H'' t' o' x => h σ'' cls d g'' H'' (t.trans t') o' x
  | stuck => exact h
end

/-! ### the ghost's own steps -/
section
variable {K : PySem.W.Frag} {σ : St} {g : G} {s : S} {H : Hp}
theorem Ok.live {a : Addr} (ok : Ok K g s σ H) (l : Live g s a) : ∃ u, H a = some u := by
  obtain ⟨l, o, e, rfl⟩ := l
  exact (ok.cell l o e).2.some
theorem Ok.fnone {a : Addr} (ok : Ok K g s σ H) (n : H a = none) : g.F a = none := by
  cases e : g.F a with
  | none => rfl
  | some u => rw [ok.sub _ _ e] at n; cases n
theorem Ok.pnone {a : Addr} (ok : Ok K g s σ H) (n : H a = none) : ¬ g.P a := fun p => by
  obtain ⟨⟨u, e⟩, _⟩ := ok.prot a p
  rw [n] at e; cases e
theorem Ok.lnone {a : Addr} (ok : Ok K g s σ H) (n : H a = none) : ¬ Live g s a := fun p => by
  obtain ⟨u, e⟩ := ok.live p
  rw [n] at e; cases e
/-- a new tracked object, not in the store -/
theorem Ok.grow {a : Addr} {o : HO} (ok : Ok K g s σ H) (n : H a = none) : Ok K g s σ (upd H a o) := by
  have ne : ∀ b u, H b = some u → b ≠ a := fun b u e z => by rw [z, n] at e; cases e
  refine ⟨fun b u e => by rw [upd_ne (ne b u (ok.sub b u e))]; exact ok.sub b u e, fun l u e => ?_, ok.inj, ok.env, ok.len, ok.ng, fun b p => ?_⟩
  · obtain ⟨f, r⟩ := ok.cell l u e
    obtain ⟨w, hw⟩ := r.some
    exact ⟨f, r.mono (GLe.refl _) (upd_ne (ne _ _ hw))⟩
  · obtain ⟨⟨u, e⟩, f, l⟩ := ok.prot b p
    exact ⟨⟨u, by rw [upd_ne (ne _ _ e)]; exact e⟩, f, l⟩
theorem Step.grow {a : Addr} {o : HO} (ok : Ok K g s σ H) (n : H a = none) : Step g H g (upd H a o) := by
  refine ⟨GLe.refl _, rfl, fun b p => upd_ne fun z => ?_⟩
  obtain ⟨⟨u, e⟩, _⟩ := ok.prot b p
  rw [z, n] at e; cases e
/-- a tracked object that is not in the store comes to stand for good -/
def G.frz (g : G) (a : Addr) (o : HO) : G := { g with F := upd g.F a o }
theorem frz_le {a : Addr} {o : HO} (n : g.F a = none) : GLe g (g.frz a o) := by
  refine ⟨fun b u e => ?_, Nat.le_refl _, fun _ _ => rfl⟩
  show upd g.F a o b = _
  rw [upd_ne (fun z => by rw [z, n] at e; cases e)]
  exact e
theorem SlotRep.mono {g' : G} {i : Nat} {x : Slot} (l : GLe g g') (k : SlKeep g g') (h : SlotRep K g σ i x) : SlotRep K g' σ i x := by
  cases x with
  | none => trivial
  | val d =>
    obtain ⟨v, e, r⟩ := h
    exact ⟨v, e, r.mono l⟩
  | own o =>
    show σ[i]? = _
    rw [k i]; exact h
theorem Ok.frz {a : Addr} {o : HO} (ok : Ok K g s σ H) (h : H a = some o) (n : g.F a = none) (np : ¬ g.P a) (nl : ¬ Live g s a) : Ok K (g.frz a o) s σ H := by
  have f0 : ∀ b, b ≠ a → (g.frz a o).F b = g.F b := fun b z => upd_ne z
  refine ⟨fun b u e => ?_, fun l u e => ?_, ok.inj, fun i x e => (ok.env i x e).mono (frz_le n) (SlKeep.refl _), ok.len, ok.ng, fun b p => ?_⟩
  · by_cases z : b = a
    · subst z
      have e' : upd g.F b o b = some u := e
      rw [upd_same] at e'
      rw [h]; exact e'
    · rw [f0 b z] at e
      exact ok.sub b u e
  · obtain ⟨f, r⟩ := ok.cell l u e
    exact ⟨(f0 _ fun z => nl ⟨l, u, e, z⟩).trans f, r.mono (frz_le n) rfl⟩
  · obtain ⟨e, f, l⟩ := ok.prot b p
    exact ⟨e, (f0 b fun z => np (z ▸ p)).trans f, l⟩
theorem Step.frz {a : Addr} {o : HO} (n : g.F a = none) : Step g H (g.frz a o) H := ⟨frz_le n, rfl, fun _ _ => rfl⟩
end
end MI
/-! # Expressions -/
namespace MI
open PySem L2

section
variable {K : PySem.W.Frag} {W : WX} {σ : St} {g : G} {s : S} {H : Hp}
/-- the end of an operation that makes nothing new -/
theorem kE_d {Q : VK} {x : D} {v : V} (h : PostE K W σ g s H (kE K Q) (.ok (.d x) s)) (o : Ok K g s σ H) (r : Rep K g v x) : Q v H := (PostE.done h o) v r
/-- .. that makes a new tracked object -/
theorem kE_new {Q : VK} {o : MObj} {ho : HO} {p : Addr} (h : PostE K W σ g s H (kE K Q) (.ok (.new o) s)) (k : Ok K g s σ H) (n : H p = none)
    (r : ObjRep K g (upd H p ho) p o) : Q (.ref p) (upd H p ho) :=
  h g _ (Step.grow k n) (SlKeep.refl _) (k.grow n) _ ⟨p, rfl, k.fnone n, k.pnone n, k.lnone n, r⟩
/-- a new tuple stands for good at once -/
theorem kE_tup {Q : VK} {ds : List D} {vs : List V} {p : Addr} (h : PostE K W σ g s H (kE K Q) (.ok (.d (.tup ds)) s)) (k : Ok K g s σ H) (n : H p = none)
    (r : RepL K g vs ds) : Q (.ref p) (upd H p (.tup vs)) := by
  have k1 := k.grow (o := .tup vs) n
  have k2 := k1.frz (o := .tup vs) upd_same (k.fnone n) (k.pnone n) (k.lnone n)
  refine h (g.frz p (.tup vs)) _ ((Step.grow k n).trans (Step.frz (k.fnone n))) (SlKeep.refl _) k2 _ (.tup (.inl (.inl ?_)) (r.mono (frz_le (k.fnone n))))
  exact upd_same
end

/-- a new object that is held while other parts run stands for good -/
def frzO : MObj → Option D
  | .lst xs => some (.lst xs)
  | .dic kvs => some (.dic kvs)
  | .ins _ _ => none
def settle : RV → Option RV
  | .new o => (frzO o).map .d
  | r => some r
/-- a value goes out of hand: a slot's object, a new one, stand for good from there on -/
def leak : RV → S → Option (D × S)
  | .d x, s => some (x, s)
  | .new o, s => (frzO o).map fun d => (d, s)
  | .at i, s => match s.env[i]? with
    | some (.own o) => (frzO o).map fun d => (d, { s with env := s.env.set i (.val d) })
    | _ => none

section
variable {K : PySem.W.Frag} {W : WX} {σ : St} {g : G} {s : S} {H : Hp}
theorem frzO_rep {g : G} {H : Hp} {a : Addr} {o : MObj} {d : D} (e : frzO o = some d) (r : ObjRep K g H a o) (n : g.F a = none) :
    ∃ u, H a = some u ∧ Rep K (g.frz a u) (.ref a) d := by
  cases o with
  | lst xs =>
    cases e
    obtain ⟨vs, h, r⟩ := r
    exact ⟨_, h, .lst upd_same (r.mono (frz_le n))⟩
  | dic xs =>
    cases e
    obtain ⟨vs, h, r⟩ := r
    exact ⟨_, h, .dic upd_same (r.mono (frz_le n))⟩
  | ins c fs => cases e
theorem settle_ok {v : V} {r r' : RV} (ok : Ok K g s σ H) (h : RepRV K g s H v r) (e : settle r = some r') :
    ∃ g', Step g H g' H ∧ SlKeep g g' ∧ Ok K g' s σ H ∧ RepRV K g' s H v r' := by
  cases r with
  | d x => cases e; exact ⟨g, Step.refl _ _, SlKeep.refl _, ok, h⟩
  | «at» i => cases e; exact ⟨g, Step.refl _ _, SlKeep.refl _, ok, h⟩
  | new o =>
    obtain ⟨a, rfl, n, np, nl, q⟩ := h
    cases e' : frzO o with
    | none => simp only [settle, e', Option.map_some, Option.map_none] at e; cases e
    | some d =>
      simp only [settle, e', Option.map_some, Option.map_none] at e; cases e
      obtain ⟨u, hu, r⟩ := frzO_rep e' q n
      exact ⟨g.frz a u, Step.frz n, SlKeep.refl _, ok.frz hu n np nl, r⟩
/-- a slot's object is given up: the slot holds data -/
theorem Ok.giveup {i : Nat} {o : MObj} {d : D} {u : HO} (ok : Ok K g s σ H) (e : s.env[i]? = some (.own o)) (hu : H (g.adr (.sl i)) = some u)
    (r : Rep K (g.frz (g.adr (.sl i)) u) (.ref (g.adr (.sl i))) d) : Ok K (g.frz (g.adr (.sl i)) u) { s with env := s.env.set i (.val d) } σ H := by
  have hi : i < s.env.length := (List.getElem?_eq_some_iff.mp e).1
  have ce : cellOf s (.sl i) = some o := by show (match s.env[i]? with | some (.own o) => some o | _ => none) = _; rw [e]
  obtain ⟨n, _⟩ := ok.cell _ _ ce
  have sub : ∀ l w, cellOf { s with env := s.env.set i (.val d) } l = some w → l ≠ .sl i ∧ cellOf s l = some w := by
    intro l w h
    cases l with
    | gl n => exact ⟨(fun z => nomatch z), h⟩
    | sl j =>
      by_cases z : j = i
      · subst z
        have h' : (match (s.env.set j (.val d))[j]? with | some (.own o) => some o | _ => none) = some w := h
        rw [List.getElem?_set_self hi] at h'
        cases h'
      · refine ⟨fun q => z (by cases q; rfl), ?_⟩
        have h' : (match (s.env.set i (.val d))[j]? with | some (.own o) => some o | _ => none) = some w := h
        rw [List.getElem?_set_ne (Ne.symm z)] at h'
        exact h'
  have ne : ∀ l w, cellOf s l = some w → l ≠ .sl i → g.adr l ≠ g.adr (.sl i) := fun l w h z q => z (ok.inj _ _ _ _ h ce q)
  refine ⟨fun b w q => ?_, fun l w q => ?_, fun l l' w w' q q' z => ok.inj l l' w w' (sub l w q).2 (sub l' w' q').2 z, fun j x q => ?_, by rw [List.length_set]; exact ok.len, ok.ng, fun b p => ?_⟩
  · have q' : upd g.F (g.adr (.sl i)) u b = some w := q
    by_cases z : b = g.adr (.sl i)
    · rw [z, upd_same] at q'
      rw [z, hu]; exact q'
    · rw [upd_ne z] at q'
      exact ok.sub b w q'
  · obtain ⟨h1, h2⟩ := sub l w q
    obtain ⟨f, r'⟩ := ok.cell l w h2
    refine ⟨?_, r'.mono (frz_le n) rfl⟩
    show upd g.F (g.adr (.sl i)) u (g.adr l) = none
    rw [upd_ne (ne l w h2 h1)]
    exact f
  · by_cases z : j = i
    · subst z
      rw [List.getElem?_set_self hi] at q
      cases q
      exact ⟨_, ok.env j _ e, r⟩
    · rw [List.getElem?_set_ne (Ne.symm z)] at q
      exact (ok.env j x q).mono (frz_le n) (SlKeep.refl _)
  · obtain ⟨e1, f, l⟩ := ok.prot b p
    refine ⟨e1, ?_, fun ⟨l', w, q, z⟩ => l ⟨l', w, (sub l' w q).2, z⟩⟩
    show upd g.F (g.adr (.sl i)) u b = none
    rw [upd_ne (fun z => l ⟨_, _, ce, z.symm⟩)]
    exact f
theorem leak_ok {v : V} {r : RV} {d : D} {s' : S} (ok : Ok K g s σ H) (h : RepRV K g s H v r) (e : leak r s = some (d, s')) :
    ∃ g', Step g H g' H ∧ SlKeep g g' ∧ Ok K g' s' σ H ∧ Rep K g' v d := by
  cases r with
  | d x => cases e; exact ⟨g, Step.refl _ _, SlKeep.refl _, ok, h⟩
  | new o =>
    obtain ⟨a, rfl, n, np, nl, q⟩ := h
    cases e' : frzO o with
    | none => simp only [leak, e', Option.map_some, Option.map_none] at e; cases e
    | some d' =>
      simp only [leak, e', Option.map_some, Option.map_none] at e; cases e
      obtain ⟨u, hu, r⟩ := frzO_rep e' q n
      exact ⟨g.frz a u, Step.frz n, SlKeep.refl _, ok.frz hu n np nl, r⟩
  | «at» i =>
    have hv : v = .ref (g.adr (.sl i)) := h
    subst hv
    unfold leak at e
    cases e1 : s.env[i]? with
    | none => simp only [e1] at e; cases e
    | some w =>
      cases w with
      | none => simp only [e1] at e; cases e
      | val x => simp only [e1] at e; cases e
      | own o =>
        simp only [e1] at e
        cases e' : frzO o with
        | none => simp only [e'] at e; cases e
        | some d' =>
          simp only [e'] at e; cases e
          have ce : cellOf s (.sl i) = some o := by show (match s.env[i]? with | some (.own o) => some o | _ => none) = _; rw [e1]
          obtain ⟨n, q⟩ := ok.cell _ _ ce
          obtain ⟨u, hu, r⟩ := frzO_rep e' q n
          exact ⟨_, Step.frz n, SlKeep.refl _, ok.giveup e1 hu r, r⟩
end

/-! ### names, constants -/
def mVar (i : Nat) : M := fun s => match s.env[i]? with
  | some (.val x) => .ok (.d x) s
  | some (.own _) => .ok (.at i) s
  | _ => .stuck
def mC (x : D) : M := fun s => .ok (.d x) s
def mLeak (m : M) : S → Res D := fun s => (m s).bind fun r s1 => match leak r s1 with
  | some (d, s2) => .ok d s2
  | none => .stuck
def mSettle (m : M) : M := fun s => (m s).bind fun r s1 => match settle r with
  | some r' => .ok r' s1
  | none => .stuck

section
variable {X : Cx} {W : WX}
theorem me_var {i : Nat} {x : Str} {pos : Pos} (hN : X.N[i]? = some x := by rfl) (hv : Vis X.env.scope x := by first | exact Or.inl rfl | exact Or.inr (Or.inl rfl) | exact Or.inr (Or.inr rfl)) (hd : (x == ("__debug__" : Str)) = false := by decide) (hcd : (x == ("__classdict__" : Str)) = false := by decide) :
    ME X W (.Name x pos) (mVar i) := by
  refine pe_imp (pe_var (i := i) hN hv hd hcd) fun σ H Q ⟨g, s, ok, h⟩ => ?_
  unfold mVar at h
  cases e : s.env[i]? with
  | none => simp only [e] at h; exact h.elim
  | some w =>
    cases w with
    | none => simp only [e] at h; exact h.elim
    | val x =>
      simp only [e] at h
      obtain ⟨v, ev, r⟩ := ok.env i _ e
      exact ⟨v, ev, kE_d h ok r⟩
    | own o =>
      simp only [e] at h
      exact ⟨_, ok.env i _ e, PostE.done h ok _ rfl⟩
theorem me_int {i : Int} {j pos} : ME X W (.Constant (.int i) j pos) (mC (.int i)) := pe_imp pe_int fun σ H Q ⟨g, s, ok, h⟩ => kE_d h ok (.int i)
theorem me_bl {b : Bool} {j pos} : ME X W (.Constant (.bool b) j pos) (mC (.bl b)) := pe_imp pe_bl fun σ H Q ⟨g, s, ok, h⟩ => kE_d h ok (.bl b)
theorem me_non {j pos} : ME X W (.Constant .none j pos) (mC .non) := pe_imp pe_non fun σ H Q ⟨g, s, ok, h⟩ => kE_d h ok .non
theorem me_str {x : Str} {j pos} : ME X W (.Constant (.str x) j pos) (mC (.str x)) := pe_imp pe_str fun σ H Q ⟨g, s, ok, h⟩ => kE_d h ok (.str x)
theorem me_glob {x : Str} {v : V} {u : Value} {d : D} {pos : Pos} (hg : Gl X x) (hm : X.mg x = some u) (r : RelV v u) (hr : ∀ g, Rep X.K g v d) (hd : (x == ("__debug__" : Str)) = false := by decide) : ME X W (.Name x pos) (mC d) :=
  pe_imp (pe_glob hg hm r hd) fun σ H Q ⟨g, s, ok, h⟩ => kE_d h ok (hr g)

/-! ### two operands -/
def mBin (f : S → RV → RV → Res RV) (a b : M) : M := fun s => (mSettle a s).bind fun x s1 => (b s1).bind fun y s2 => f s2 x y
def OpS (X : Cx) (W : WX) (r : R2) (f : S → RV → RV → Res RV) : Prop :=
  ∀ (σ : St) (g : G) (s : S) (H : Hp) (Q : VK) (x y : V) (ra rb : RV), Ok X.K g s σ H → RepRV X.K g s H x ra → RepRV X.K g s H y rb → (∀ o, ra ≠ .new o) →
    PostE X.K W σ g s H (kE X.K Q) (f s ra rb) → r x y H Q
theorem RepRV.held {K : PySem.W.Frag} {g g' : G} {s s' : S} {H H' : Hp} {v : V} {r : RV} (n : ∀ o, r ≠ .new o) (t : Step g H g' H') (k : SlKeep g g') (h : RepRV K g s H v r) : RepRV K g' s' H' v r := by
  cases r with
  | d x => exact Rep.mono t.le h
  | «at» i => show v = _; rw [k i]; exact h
  | new o => exact absurd rfl (n o)
theorem settle_no {r r' : RV} (e : settle r = some r') : ∀ o, r' ≠ .new o := by
  cases r with
  | d x => cases e; exact fun o z => by cases z
  | «at» i => cases e; exact fun o z => by cases z
  | new o =>
    cases e' : frzO o with
    | none => simp only [settle, e', Option.map_none] at e; cases e
    | some d => simp only [settle, e', Option.map_some] at e; cases e; exact fun o z => by cases z
/-- the settled reading of a part -/
theorem tM_settle {K : PySem.W.Frag} {m : M} {σ : St} {H : Hp} {Q : VK} {g : G} {s : S} {k : RV → G → S → Hp → Prop} (ok : Ok K g s σ H)
    (h : PostE K W σ g s H k (mSettle m s)) (q : ∀ r g' s' H' v, Step g H g' H' → SlKeep g g' → Ok K g' s' σ H' → RepRV K g' s' H' v r → (∀ o, r ≠ .new o) → k r g' s' H' → Q v H') : tM K W m σ H Q := by
  refine ⟨g, s, ok, (PostE.bind h).mono fun r g1 s1 H1 t1 k1 o1 h1 v rv => ?_⟩
  cases e : settle r with
  | none => rw [e] at h1; exact h1.elim
  | some r' =>
    rw [e] at h1
    obtain ⟨g2, t2, k2, o2, rv2⟩ := settle_ok o1 rv e
    have h2 := h1 g2 H1 t2 k2 o2
    exact q r' g2 s1 H1 v (t1.trans t2) (k1.trans k2) o2 rv2 (settle_no e) h2
theorem tOp_of {r : R2} {f : S → RV → RV → Res RV} {ma mb : M} (hs : OpS X W r f) {σ : St} {H : Hp} {Q : VK} {g : G} {s : S} (ok : Ok X.K g s σ H)
    (h : PostE X.K W σ g s H (kE X.K Q) (mBin f ma mb s)) : tOp r (tM X.K W ma) (tM X.K W mb) σ H Q := by
  refine tM_settle ok (PostE.bind h) fun x g1 s1 H1 v t1 k1 o1 rv nn h1 => ?_
  refine ⟨g1, s1, o1, (PostE.bind h1).mono fun y g2 s2 H2 t2 k2 o2 h2 u ru => ?_⟩
  exact hs σ g2 s2 H2 Q v u x y o2 (rv.held nn t2 k2) ru nn h2
variable {a b : Expr} {ma mb : M} {pos : Pos}
theorem me_bin {op : Operator} {r : R2} {f : S → RV → RV → Res RV} (ho : OpR X (binaryOp op) r) (hs : OpS X W r f) (ha : ME X W a ma) (hb : ME X W b mb) : ME X W (.BinOp a op b pos) (mBin f ma mb) :=
  pe_imp (pe_op ho ha hb) fun _ _ _ ⟨_, _, ok, h⟩ => tOp_of hs ok h
theorem me_cmp {op : CmpOp} {r : R2} {f : S → RV → RV → Res RV} (ho : OpR X (compareOp op) r) (hs : OpS X W r f) (ha : ME X W a ma) (hb : ME X W b mb) (hm : behindInMarks op b = false) : ME X W (.Compare a [op] [b] pos) (mBin f ma mb) :=
  pe_imp (pe_cmpR ho ha hb hm) fun _ _ _ ⟨_, _, ok, h⟩ => tOp_of hs ok h
end
end MI
/-! # Operations on values -/
namespace MI
open PySem L2

def asLst (s : S) : RV → Option (List D)
  | .d (.lst xs) => some xs
  | .at i => match s.env[i]? with
    | some (.own (.lst xs)) => some xs
    | _ => none
  | .d (.ref n) => match s.gl[n]? with
    | some (.lst xs) => some xs
    | _ => none
  | .new (.lst xs) => some xs
  | _ => none
def asDic (s : S) : RV → Option (List (Key × D))
  | .d (.dic xs) => some xs
  | .at i => match s.env[i]? with
    | some (.own (.dic xs)) => some xs
    | _ => none
  | .d (.ref n) => match s.gl[n]? with
    | some (.dic xs) => some xs
    | _ => none
  | .new (.dic xs) => some xs
  | _ => none
def asTup : RV → Option (List D)
  | .d (.tup xs) => some xs
  | _ => none
def asInt : RV → Option Int
  | .d (.int i) => some i
  | _ => none
def asStr : RV → Option Str
  | .d (.str i) => some i
  | _ => none

section
variable {K : PySem.W.Frag} {W : WX} {σ : St} {g : G} {s : S} {H : Hp}
theorem asInt_ok {v : V} {r : RV} {i : Int} (h : RepRV K g s H v r) (e : asInt r = some i) : v = .int i := by
  cases r with
  | d x => cases x <;> first | (cases e; cases (show Rep K g v _ from h); rfl) | cases e
  | «at» i => cases e
  | new o => cases e
theorem asStr_ok {v : V} {r : RV} {i : Str} (h : RepRV K g s H v r) (e : asStr r = some i) : v = .str i := by
  cases r with
  | d x => cases x <;> first | (cases e; cases (show Rep K g v _ from h); rfl) | cases e
  | «at» i => cases e
  | new o => cases e
theorem asTup_ok {v : V} {r : RV} {xs : List D} (ok : Ok K g s σ H) (h : RepRV K g s H v r) (e : asTup r = some xs) : ∃ a vs, v = .ref a ∧ SqT K H a vs ∧ RepL K g vs xs := by
  cases r with
  | d x =>
    cases x with
    | tup ys =>
      cases e
      cases (show Rep K g v _ from h) with
      | tup h1 r => exact ⟨_, _, rfl, sqT_mono ok.sub h1, r⟩
    | _ => cases e
  | «at» i => cases e
  | new o => cases e
theorem cell_sl {i : Nat} {o : MObj} (e : s.env[i]? = some (.own o)) : cellOf s (.sl i) = some o := by
  show (match s.env[i]? with | some (.own o) => some o | _ => none) = _
  rw [e]
theorem asLst_ok {v : V} {r : RV} {xs : List D} (ok : Ok K g s σ H) (h : RepRV K g s H v r) (e : asLst s r = some xs) : ∃ a vs, v = .ref a ∧ H a = some (.lst vs) ∧ RepL K g vs xs := by
  cases r with
  | d x =>
    cases x with
    | lst ys =>
      cases e
      cases (show Rep K g v _ from h) with
      | lst h1 r => exact ⟨_, _, rfl, ok.sub _ _ h1, r⟩
    | ref n =>
      cases (show Rep K g v _ from h) with
      | ref _ hn =>
        simp only [asLst] at e
        split at e
        · rename_i ys hg
          cases e
          obtain ⟨_, vs, h1, r⟩ := ok.cell (.gl n) (.lst xs) hg
          exact ⟨_, _, rfl, h1, r⟩
        · cases e
    | _ => cases e
  | «at» i =>
    simp only [asLst] at e
    split at e
    · rename_i ys hg
      cases e
      obtain ⟨_, vs, h1, r⟩ := ok.cell (.sl i) (.lst xs) (cell_sl hg)
      exact ⟨_, _, h, h1, r⟩
    · cases e
  | new o =>
    cases o with
    | lst ys =>
      cases e
      obtain ⟨a, hv, _, _, _, vs, h1, r⟩ := h
      exact ⟨a, vs, hv, h1, r⟩
    | _ => cases e
theorem asDic_ok {v : V} {r : RV} {xs : List (Key × D)} (ok : Ok K g s σ H) (h : RepRV K g s H v r) (e : asDic s r = some xs) : ∃ a vs, v = .ref a ∧ H a = some (.dK vs) ∧ RepK K g vs xs := by
  cases r with
  | d x =>
    cases x with
    | dic ys =>
      cases e
      cases (show Rep K g v _ from h) with
      | dic h1 r => exact ⟨_, _, rfl, ok.sub _ _ h1, r⟩
    | ref n =>
      cases (show Rep K g v _ from h) with
      | ref _ hn =>
        simp only [asDic] at e
        split at e
        · rename_i ys hg
          cases e
          obtain ⟨_, vs, h1, r⟩ := ok.cell (.gl n) (.dic xs) hg
          exact ⟨_, _, rfl, h1, r⟩
        · cases e
    | _ => cases e
  | «at» i =>
    simp only [asDic] at e
    split at e
    · rename_i ys hg
      cases e
      obtain ⟨_, vs, h1, r⟩ := ok.cell (.sl i) (.dic xs) (cell_sl hg)
      exact ⟨_, _, h, h1, r⟩
    · cases e
  | new o =>
    cases o with
    | dic ys =>
      cases e
      obtain ⟨a, hv, _, _, _, vs, h1, r⟩ := h
      exact ⟨a, vs, hv, h1, r⟩
    | _ => cases e
end

/-! ### arithmetic -/
/-- of two operations the one that is not stuck -/
def orF (f f' : S → RV → RV → Res RV) : S → RV → RV → Res RV := fun s a b => match f s a b with
  | .stuck => f' s a b
  | r => r
theorem OpS.or {X : Cx} {W : WX} {r r' : R2} {f f' : S → RV → RV → Res RV} (h : OpS X W r f) (h' : OpS X W r' f') : OpS X W (fun x y H Q => r x y H Q ∨ r' x y H Q) (orF f f') := by
  intro σ g s H Q x y ra rb ok rx ry nn q
  unfold orF at q
  cases e : f s ra rb with
  | ok a s' => simp only [e] at q; exact .inl (h σ g s H Q x y ra rb ok rx ry nn (by rw [e]; exact q))
  | exc c p s' => simp only [e] at q; exact .inl (h σ g s H Q x y ra rb ok rx ry nn (by rw [e]; exact q))
  | stuck => simp only [e] at q; exact .inr (h' σ g s H Q x y ra rb ok rx ry nn q)
def fI (C : Int → Int → Bool) (f : Int → Int → D) : S → RV → RV → Res RV := fun s a b => match asInt a, asInt b with
  | some i, some j => if C i j = true then .ok (.d (f i j)) s else .stuck
  | _, _ => .stuck
theorem fI_ok {X : Cx} {W : WX} {C : Int → Int → Bool} {f : Int → Int → D} {C' : Int → Int → Prop} {f' : Int → Int → V} (hc : ∀ i j, C i j = true → C' i j) (hf : ∀ K g i j, Rep K g (f' i j) (f i j)) : OpS X W (rI C' f') (fI C f) := by
  intro σ g s H Q x y ra rb ok rx ry nn q
  unfold fI at q
  cases e1 : asInt ra with
  | none => simp only [e1] at q; exact q.elim
  | some i =>
    cases e2 : asInt rb with
    | none => simp only [e1, e2] at q; exact q.elim
    | some j =>
      simp only [e1, e2] at q
      by_cases h : C i j = true
      · rw [if_pos h] at q
        exact ⟨i, j, asInt_ok rx e1, asInt_ok ry e2, hc i j h, kE_d q ok (hf _ _ i j)⟩
      · rw [if_neg h] at q; exact q.elim
theorem rI0_of {g : Int → Int → V} {x y : V} {H : Hp} {Q : VK} (h : rI (fun _ _ => True) g x y H Q) : rI0 g x y H Q := by
  obtain ⟨i, j, e1, e2, _, q⟩ := h
  exact ⟨i, j, e1, e2, q⟩
theorem OpR.imp {X : Cx} {f : Value → Value → Sem Value} {r r' : R2} (h : OpR X f r) (i : ∀ x y H Q, r' x y H Q → r x y H Q) : OpR X f r' :=
  fun pins s σ H x y v u Q I rx ry q => h pins s σ H x y v u Q I rx ry (i x y H Q q)
def cT : Int → Int → Bool := fun _ _ => true
def cMul : Int → Int → Bool := fun i j => decide (i.natAbs < 2 ^ 64) || decide (j.natAbs < 2 ^ 64) || decide (i.natAbs.log2 + j.natAbs.log2 < 1000000)
def cMod : Int → Int → Bool := fun _ j => decide (0 < j)
def cFdiv : Int → Int → Bool := fun _ j => decide (0 < j) && (decide (j < 1073741824) || decide (j.natAbs.log2 < 9000))
def cPow : Int → Int → Bool := fun i j => decide (0 ≤ j) && (decide (j ≤ 1000000) && decide (i.natAbs < 2 ^ 64))
section
variable {X : Cx} {W : WX}
def opSub := fI cT fun i j => .int (i - j)
theorem os_sub : OpS X W (rI0 fun i j => .int (i - j)) opSub := fun σ g s H Q x y ra rb ok rx ry nn q => rI0_of (fI_ok (C' := fun _ _ => True) (fun _ _ _ => trivial) (fun _ _ i j => .int _) σ g s H Q x y ra rb ok rx ry nn q)
def rMul2 : R2 := fun x y H Q => rI CMul (fun i j => .int (i * j)) x y H Q ∨ rI CMulW (fun i j => .int (i * j)) x y H Q
theorem op_mul2 : OpR X (binaryOp .Mult) rMul2 := op_mul.or op_mulW
def opMulI := fI cMul fun i j => .int (i * j)
theorem os_mulI : OpS X W rMul2 opMulI := by
  intro σ g s H Q x y ra rb ok rx ry nn q
  obtain ⟨i, j, e1, e2, hc, q⟩ := fI_ok (X := X) (C' := fun i j => cMul i j = true) (f' := fun i j => V.int (i * j)) (fun _ _ h => h) (fun _ _ i j => .int _) σ g s H Q x y ra rb ok rx ry nn q
  unfold cMul at hc
  simp only [Bool.or_eq_true, decide_eq_true_eq] at hc
  rcases hc with (h | h) | h
  · exact .inl ⟨i, j, e1, e2, .inl ⟨by omega, by omega⟩, q⟩
  · exact .inl ⟨i, j, e1, e2, .inr ⟨by omega, by omega⟩, q⟩
  · exact .inr ⟨i, j, e1, e2, h, q⟩
def opMod := fI cMod fun i j => .int (i % j)
theorem os_mod : OpS X W (rI (fun _ j => 0 < j) fun i j => .int (i % j)) opMod := fI_ok (fun _ _ h => of_decide_eq_true h) (fun _ _ i j => .int _)
def rFdiv2 : R2 := fun x y H Q => rI CDiv (fun i j => .int (i / j)) x y H Q ∨ rI CDivW (fun i j => .int (i / j)) x y H Q
theorem op_fdiv2 : OpR X (binaryOp .FloorDiv) rFdiv2 := op_fdiv.or op_fdivW
def opFdiv := fI cFdiv fun i j => .int (i / j)
theorem os_fdiv : OpS X W rFdiv2 opFdiv := by
  intro σ g s H Q x y ra rb ok rx ry nn q
  obtain ⟨i, j, e1, e2, hc, q⟩ := fI_ok (X := X) (C' := fun i j => cFdiv i j = true) (f' := fun i j => V.int (i / j)) (fun _ _ h => h) (fun _ _ i j => .int _) σ g s H Q x y ra rb ok rx ry nn q
  unfold cFdiv at hc
  simp only [Bool.or_eq_true, Bool.and_eq_true, decide_eq_true_eq] at hc
  obtain ⟨h0, h | h⟩ := hc
  · exact .inl ⟨i, j, e1, e2, ⟨h0, h⟩, q⟩
  · exact .inr ⟨i, j, e1, e2, ⟨h0, h⟩, q⟩
def opPow := fI cPow fun i j => .int (i ^ j.toNat)
theorem cPow_ok (i j : Int) (h : cPow i j = true) : CPow i j := by
  unfold cPow at h
  simp only [Bool.and_eq_true, decide_eq_true_eq] at h
  exact ⟨h.1, h.2.1, h.2.2⟩
theorem os_pow : OpS X W (rI CPow fun i j => .int (i ^ j.toNat)) opPow := fI_ok cPow_ok (fun _ _ i j => .int _)
def opShl := fI cPow fun i j => .int (i * 2 ^ j.toNat)
theorem os_shl : OpS X W (rI CPow fun i j => .int (i * 2 ^ j.toNat)) opShl := fI_ok cPow_ok (fun _ _ i j => .int _)

/-! ### a + b -/
def opAddI := fI cT fun i j => .int (i + j)
theorem os_addI : OpS X W (rI0 fun i j => .int (i + j)) opAddI := fun σ g s H Q x y ra rb ok rx ry nn q => rI0_of (fI_ok (C' := fun _ _ => True) (fun _ _ _ => trivial) (fun _ _ i j => .int _) σ g s H Q x y ra rb ok rx ry nn q)
def opAddS : S → RV → RV → Res RV := fun s a b => match asStr a, asStr b with
  | some x, some y => if x.length + y.length ≤ sizeLine then .ok (.d (.str (x ++ y))) s else .stuck
  | _, _ => .stuck
theorem os_addS : OpS X W (fun x y H Q => ∃ i j, x = .str i ∧ y = .str j ∧ i.length + j.length ≤ sizeLine ∧ Q (.str (i ++ j)) H) opAddS := by
  intro σ g s H Q x y ra rb ok rx ry nn q
  unfold opAddS at q
  split at q
  · rename_i i j e1 e2
    split at q
    · rename_i h
      exact ⟨i, j, asStr_ok rx e1, asStr_ok ry e2, h, kE_d q ok (.str _)⟩
    · exact q.elim
  · exact q.elim
def opAddT : S → RV → RV → Res RV := fun s a b => match asTup a, asTup b with
  | some x, some y => if x.length + y.length ≤ sizeLine then .ok (.d (.tup (x ++ y))) s else .stuck
  | _, _ => .stuck
theorem RepL.nil_iff {K : PySem.W.Frag} {g : G} {vs : List V} {ds : List D} (r : RepL K g vs ds) : vs = [] ↔ ds = [] := by
  cases r <;> simp
theorem os_addT : OpS X W (rCatA X.K) opAddT := by
  intro σ g s H Q x y ra rb ok rx ry nn q
  unfold opAddT at q
  split at q
  · rename_i i j e1 e2
    split at q
    · rename_i h
      obtain ⟨a, vs, rfl, h1, r1⟩ := asTup_ok ok rx e1
      obtain ⟨b, ws, rfl, h2, r2⟩ := asTup_ok ok ry e2
      refine ⟨a, b, vs, ws, rfl, rfl, h1, h2, by rw [r1.length, r2.length]; exact h, fun z => ?_, fun z z' => ?_, fun z z' p hp => kE_tup q ok hp (r1.append r2)⟩
      · rw [(RepL.nil_iff r1).mp z, List.nil_append] at q
        cases rb with
        | d w =>
          cases w <;> first | cases e2
          exact kE_d q ok ry
        | «at» _ => cases e2
        | new _ => cases e2
      · rw [(RepL.nil_iff r2).mp z', List.append_nil] at q
        cases ra with
        | d w =>
          cases w <;> first | cases e1
          exact kE_d q ok rx
        | «at» _ => cases e1
        | new _ => cases e1
    · exact q.elim
  · exact q.elim
def opAddL : S → RV → RV → Res RV := fun s a b => match asLst s a, asLst s b with
  | some x, some y => if x.length + y.length ≤ sizeLine then .ok (.new (.lst (x ++ y))) s else .stuck
  | _, _ => .stuck
theorem os_addL : OpS X W rCat opAddL := by
  intro σ g s H Q x y ra rb ok rx ry nn q
  unfold opAddL at q
  split at q
  · rename_i i j e1 e2
    split at q
    · rename_i h
      obtain ⟨a, vs, rfl, h1, r1⟩ := asLst_ok ok rx e1
      obtain ⟨b, ws, rfl, h2, r2⟩ := asLst_ok ok ry e2
      exact ⟨a, b, vs, ws, rfl, rfl, h1, h2, by rw [r1.length, r2.length]; exact h, fun p hp => kE_new q ok hp ⟨_, upd_same, r1.append r2⟩⟩
    · exact q.elim
  · exact q.elim
def opAdd := orF opAddI (orF opAddS (orF opAddT opAddL))
theorem op_addA : OpR X (binaryOp .Add) (fun x y H Q => rI0 (fun i j => .int (i + j)) x y H Q ∨ (∃ i j, x = .str i ∧ y = .str j ∧ i.length + j.length ≤ sizeLine ∧ Q (.str (i ++ j)) H) ∨ rCatA X.K x y H Q ∨ rCat x y H Q) :=
  op_add.or (op_add_str.or (op_catA.or op_cat))
theorem os_add : OpS X W (fun x y H Q => rI0 (fun i j => .int (i + j)) x y H Q ∨ (∃ i j, x = .str i ∧ y = .str j ∧ i.length + j.length ≤ sizeLine ∧ Q (.str (i ++ j)) H) ∨ rCatA X.K x y H Q ∨ rCat x y H Q) opAdd :=
  os_addI.or (os_addS.or (os_addT.or os_addL))
variable {a b : Expr} {ma mb : M} {pos : Pos}
theorem me_add (ha : ME X W a ma) (hb : ME X W b mb) : ME X W (.BinOp a .Add b pos) (mBin opAdd ma mb) := me_bin op_addA os_add ha hb
theorem me_sub (ha : ME X W a ma) (hb : ME X W b mb) : ME X W (.BinOp a .Sub b pos) (mBin opSub ma mb) := me_bin op_sub os_sub ha hb
theorem me_mod (ha : ME X W a ma) (hb : ME X W b mb) : ME X W (.BinOp a .Mod b pos) (mBin opMod ma mb) := me_bin op_mod os_mod ha hb
theorem me_fdiv (ha : ME X W a ma) (hb : ME X W b mb) : ME X W (.BinOp a .FloorDiv b pos) (mBin opFdiv ma mb) := me_bin op_fdiv2 os_fdiv ha hb
theorem me_pow (ha : ME X W a ma) (hb : ME X W b mb) : ME X W (.BinOp a .Pow b pos) (mBin opPow ma mb) := me_bin op_pow os_pow ha hb
theorem me_shl (ha : ME X W a ma) (hb : ME X W b mb) : ME X W (.BinOp a .LShift b pos) (mBin opShl ma mb) := me_bin op_shl os_shl ha hb
end
end MI
/-! # Comparisons -/
namespace MI
open PySem L2

/-- what a value is as data, for the moment -/
def asD (s : S) : RV → Option D
  | .d (.ref n) => match s.gl[n]? with
    | some o => frzO o
    | none => none
  | .d x => some x
  | .at i => match s.env[i]? with
    | some (.own o) => frzO o
    | _ => none
  | .new o => frzO o
section
variable {K : PySem.W.Frag} {W : WX} {σ : St} {g : G} {s : S} {H : Hp}
theorem frz_le' {a : Addr} {u : HO} (sb : Sub g.F H) (h : H a = some u) : GLe g (g.frz a u) ∧ Sub (g.frz a u).F H := by
  refine ⟨⟨fun b w e => ?_, Nat.le_refl _, fun _ _ => rfl⟩, fun b w e => ?_⟩
  · show upd g.F a u b = _
    by_cases z : b = a
    · subst z; rw [upd_same, ← h]; exact sb _ _ e
    · rw [upd_ne z]; exact e
  · have e' : upd g.F a u b = some w := e
    by_cases z : b = a
    · subst z; rw [upd_same] at e'; rw [h]; exact e'
    · rw [upd_ne z] at e'; exact sb _ _ e'
theorem frzO_rep' {a : Addr} {o : MObj} {d : D} (sb : Sub g.F H) (e : frzO o = some d) (r : ObjRep K g H a o) :
    ∃ g', GLe g g' ∧ Sub g'.F H ∧ Rep K g' (.ref a) d := by
  cases o with
  | lst xs =>
    cases e
    obtain ⟨vs, h, r⟩ := r
    obtain ⟨l, sb'⟩ := frz_le' sb h
    exact ⟨_, l, sb', .lst upd_same (r.mono l)⟩
  | dic xs =>
    cases e
    obtain ⟨vs, h, r⟩ := r
    obtain ⟨l, sb'⟩ := frz_le' sb h
    exact ⟨_, l, sb', .dic upd_same (r.mono l)⟩
  | ins c fs => cases e
/-- .. over any ghost behind g whose F stands in H -/
theorem asD_ok {g0 : G} {v : V} {r : RV} {d : D} (ok : Ok K g0 s σ H) (l0 : GLe g0 g) (sb : Sub g.F H) (h : RepRV K g0 s H v r) (e : asD s r = some d) : ∃ g', GLe g g' ∧ Sub g'.F H ∧ Rep K g' v d := by
  cases r with
  | d x =>
    by_cases hx : ∃ n, x = .ref n
    · obtain ⟨n, rfl⟩ := hx
      simp only [asD] at e
      split at e
      · rename_i o hg
        obtain ⟨_, q⟩ := ok.cell (.gl n) o hg
        cases (show Rep K g0 v _ from h) with
        | ref _ hn => exact frzO_rep' sb e (q.mono l0 rfl)
      · cases e
    · have e' : asD s (.d x) = some x := by cases x <;> first | rfl | exact absurd ⟨_, rfl⟩ hx
      rw [e'] at e
      cases e
      exact ⟨g, GLe.refl _, sb, Rep.mono l0 h⟩
  | «at» i =>
    simp only [asD] at e
    split at e
    · rename_i o hg
      have hv : v = .ref (g0.adr (.sl i)) := h
      subst hv
      obtain ⟨_, q⟩ := ok.cell (.sl i) o (cell_sl hg)
      exact frzO_rep' sb e (q.mono l0 rfl)
    · cases e
  | new o =>
    obtain ⟨a, rfl, _, _, _, q⟩ := h
    exact frzO_rep' sb e (q.mono l0 rfl)
end

/-! ### == -/
def eqAll (f : D → D → Option Bool) : List D → List D → Option Bool
  | [], [] => some true
  | x :: xs, y :: ys => match f x y, eqAll f xs ys with
    | some a, some b => some (a && b)
    | _, _ => none
  | [], _ :: _ => some false
  | _ :: _, [] => some false
def eqS : D → D → Option Bool
  | .non, .non => some true
  | .non, .bl _ => some false
  | .non, .int _ => some false
  | .non, .str _ => some false
  | .bl _, .non => some false
  | .bl a, .bl b => some (a == b)
  | .bl a, .int j => some ((if a then 1 else 0) == j)
  | .bl _, .str _ => some false
  | .int _, .non => some false
  | .int i, .bl b => some (i == (if b then 1 else 0))
  | .int i, .int j => some (i == j)
  | .int _, .str _ => some false
  | .str _, .non => some false
  | .str _, .bl _ => some false
  | .str _, .int _ => some false
  | .str x, .str y => some (x == y)
  | _, _ => none
/-- Python's == of data nested below n; none: not told -/
def eqvO : Nat → D → D → Option Bool
  | 0, x, y => eqS x y
  | n + 1, .tup xs, .tup ys => eqAll (eqvO n) xs ys
  | n + 1, .lst xs, .lst ys => eqAll (eqvO n) xs ys
  | _ + 1, .tup _, .lst _ => some false
  | _ + 1, .lst _, .tup _ => some false
  | _ + 1, .tup _, .non => some false
  | _ + 1, .tup _, .bl _ => some false
  | _ + 1, .tup _, .int _ => some false
  | _ + 1, .tup _, .str _ => some false
  | _ + 1, .lst _, .non => some false
  | _ + 1, .lst _, .bl _ => some false
  | _ + 1, .lst _, .int _ => some false
  | _ + 1, .lst _, .str _ => some false
  | _ + 1, .non, .tup _ => some false
  | _ + 1, .bl _, .tup _ => some false
  | _ + 1, .int _, .tup _ => some false
  | _ + 1, .str _, .tup _ => some false
  | _ + 1, .non, .lst _ => some false
  | _ + 1, .bl _, .lst _ => some false
  | _ + 1, .int _, .lst _ => some false
  | _ + 1, .str _, .lst _ => some false
  | _ + 1, x, y => eqS x y

section
variable {X : Cx} {pins : List (Addr × Obj)} {σ : St} {g : G} {H : Hp} {s : Shared}
theorem tup_not_lst (I : Inv X pins σ H s) {a : Addr} {vs ws : List V} (h : SqT X.K H a vs) (h' : H a = some (.lst ws)) : False := by
  rcases h with h | ⟨o, its, n, hk, _⟩
  · rcases h with h | ⟨o, h⟩ <;> (rw [h'] at h; cases h)
  · obtain ⟨_, z⟩ := I.bs a o (I.mod.kin a o hk)
    rw [h'] at z; cases z
/-- both answers: RcAt (==) and EqAt (in a comparison of parts) -/
def EqT (X : Cx) (s : Shared) (A : Around) (v u : Value) (b : Bool) : Prop := SeqAt.RcAt A s v u b ∧ SeqAt.EqAt A s v u b ∧ SeqAt.RcNeAt A s v u (!b)
theorem eqS_at {A : Around} : ∀ {x y : D} {b : Bool} {vx vy : V} {v u : Value}, eqS x y = some b → Rep X.K g vx x → Rep X.K g vy y → RelV vx v → RelV vy u → EqT X s A v u b
  | .non, .non, _, _, _, _, _, e, .non, .non, r1, r2 => by
    cases e
    cases r1
    cases r2
    exact ⟨SeqAt.RcAt.none_none, SeqAt.EqAt.same _, SeqAt.RcNeAt.none_none⟩
  | .non, .bl q, _, _, _, _, _, e, .non, .bl _, r1, r2 => by
    cases e
    cases r1
    cases r2
    exact ⟨SeqAt.RcAt.none_bool _, SeqAt.EqAt.none_bool _, SeqAt.RcNeAt.none_bool _⟩
  | .non, .int q, _, _, _, _, _, e, .non, .int _, r1, r2 => by
    cases e
    cases r1
    obtain ⟨t2, rfl⟩ := r2
    exact ⟨SeqAt.RcAt.none_int _ _, SeqAt.EqAt.none_int _ _, SeqAt.RcNeAt.none_int _ _⟩
  | .non, .str q, _, _, _, _, _, e, .non, .str _, r1, r2 => by
    cases e
    cases r1
    obtain ⟨t2, rfl⟩ := r2
    exact ⟨SeqAt.RcAt.none_str _ _, SeqAt.EqAt.none_str _ _, SeqAt.RcNeAt.none_str _ _⟩
  | .bl p, .non, _, _, _, _, _, e, .bl _, .non, r1, r2 => by
    cases e
    cases r1
    cases r2
    exact ⟨SeqAt.RcAt.bool_none _, SeqAt.EqAt.bool_none _, SeqAt.RcNeAt.bool_none _⟩
  | .bl p, .bl q, _, _, _, _, _, e, .bl _, .bl _, r1, r2 => by
    cases e
    cases r1
    cases r2
    exact ⟨SeqAt.RcAt.bool_bool _ _, SeqAt.EqAt.bool_bool _ _, SeqAt.RcNeAt.bool_bool _ _⟩
  | .bl p, .int q, _, _, _, _, _, e, .bl _, .int _, r1, r2 => by
    cases e
    cases r1
    obtain ⟨t2, rfl⟩ := r2
    exact ⟨SeqAt.RcAt.bool_int _ _ _, SeqAt.EqAt.bool_int _ _ _, SeqAt.RcNeAt.bool_int _ _ _⟩
  | .bl p, .str q, _, _, _, _, _, e, .bl _, .str _, r1, r2 => by
    cases e
    cases r1
    obtain ⟨t2, rfl⟩ := r2
    exact ⟨SeqAt.RcAt.bool_str _ _ _, SeqAt.EqAt.bool_str _ _ _, SeqAt.RcNeAt.bool_str _ _ _⟩
  | .int p, .non, _, _, _, _, _, e, .int _, .non, r1, r2 => by
    cases e
    obtain ⟨t, rfl⟩ := r1
    cases r2
    exact ⟨SeqAt.RcAt.int_none _ _, SeqAt.EqAt.int_none _ _, SeqAt.RcNeAt.int_none _ _⟩
  | .int p, .bl q, _, _, _, _, _, e, .int _, .bl _, r1, r2 => by
    cases e
    obtain ⟨t, rfl⟩ := r1
    cases r2
    exact ⟨SeqAt.RcAt.int_bool _ _ _, SeqAt.EqAt.int_bool _ _ _, SeqAt.RcNeAt.int_bool _ _ _⟩
  | .int p, .int q, _, _, _, _, _, e, .int _, .int _, r1, r2 => by
    cases e
    obtain ⟨t, rfl⟩ := r1
    obtain ⟨t2, rfl⟩ := r2
    exact ⟨SeqAt.RcAt.int_int _ _ _ _, SeqAt.EqAt.int_int _ _ _ _, SeqAt.RcNeAt.int_int _ _ _ _⟩
  | .int p, .str q, _, _, _, _, _, e, .int _, .str _, r1, r2 => by
    cases e
    obtain ⟨t, rfl⟩ := r1
    obtain ⟨t2, rfl⟩ := r2
    exact ⟨SeqAt.RcAt.int_str _ _ _ _, SeqAt.EqAt.int_str _ _ _ _, SeqAt.RcNeAt.int_str _ _ _ _⟩
  | .str p, .non, _, _, _, _, _, e, .str _, .non, r1, r2 => by
    cases e
    obtain ⟨t, rfl⟩ := r1
    cases r2
    exact ⟨SeqAt.RcAt.str_none _ _, SeqAt.EqAt.str_none _ _, SeqAt.RcNeAt.str_none _ _⟩
  | .str p, .bl q, _, _, _, _, _, e, .str _, .bl _, r1, r2 => by
    cases e
    obtain ⟨t, rfl⟩ := r1
    cases r2
    exact ⟨SeqAt.RcAt.str_bool _ _ _, SeqAt.EqAt.str_bool _ _ _, SeqAt.RcNeAt.str_bool _ _ _⟩
  | .str p, .int q, _, _, _, _, _, e, .str _, .int _, r1, r2 => by
    cases e
    obtain ⟨t, rfl⟩ := r1
    obtain ⟨t2, rfl⟩ := r2
    exact ⟨SeqAt.RcAt.str_int _ _ _ _, SeqAt.EqAt.str_int _ _ _ _, SeqAt.RcNeAt.str_int _ _ _ _⟩
  | .str p, .str q, _, _, _, _, _, e, .str _, .str _, r1, r2 => by
    cases e
    obtain ⟨t, rfl⟩ := r1
    obtain ⟨t2, rfl⟩ := r2
    exact ⟨SeqAt.RcAt.str_str _ _ _ _, SeqAt.EqAt.str_str _ _ _ _, SeqAt.RcNeAt.str_str _ _ _ _⟩
  | .tup _, _, _, _, _, _, _, e, _, _, r1, r2 => by cases e
  | .lst _, _, _, _, _, _, _, e, _, _, r1, r2 => by cases e
  | .dic _, _, _, _, _, _, _, e, _, _, r1, r2 => by cases e
  | .scr _, _, _, _, _, _, _, e, _, _, r1, r2 => by cases e
  | .ref _, _, _, _, _, _, _, e, _, _, r1, r2 => by cases e
  | .non, .tup _, _, _, _, _, _, e, _, _, r1, r2 => by cases e
  | .bl p, .tup _, _, _, _, _, _, e, _, _, r1, r2 => by cases e
  | .int p, .tup _, _, _, _, _, _, e, _, _, r1, r2 => by cases e
  | .str p, .tup _, _, _, _, _, _, e, _, _, r1, r2 => by cases e
  | .non, .lst _, _, _, _, _, _, e, _, _, r1, r2 => by cases e
  | .bl p, .lst _, _, _, _, _, _, e, _, _, r1, r2 => by cases e
  | .int p, .lst _, _, _, _, _, _, e, _, _, r1, r2 => by cases e
  | .str p, .lst _, _, _, _, _, _, e, _, _, r1, r2 => by cases e
  | .non, .dic _, _, _, _, _, _, e, _, _, r1, r2 => by cases e
  | .bl p, .dic _, _, _, _, _, _, e, _, _, r1, r2 => by cases e
  | .int p, .dic _, _, _, _, _, _, e, _, _, r1, r2 => by cases e
  | .str p, .dic _, _, _, _, _, _, e, _, _, r1, r2 => by cases e
  | .non, .ref _, _, _, _, _, _, e, _, _, r1, r2 => by cases e
  | .non, .scr _, _, _, _, _, _, e, _, _, r1, r2 => by cases e
  | .bl p, .ref _, _, _, _, _, _, e, _, _, r1, r2 => by cases e
  | .bl p, .scr _, _, _, _, _, _, e, _, _, r1, r2 => by cases e
  | .int p, .ref _, _, _, _, _, _, e, _, _, r1, r2 => by cases e
  | .int p, .scr _, _, _, _, _, _, e, _, _, r1, r2 => by cases e
  | .str p, .ref _, _, _, _, _, _, e, _, _, r1, r2 => by cases e
  | .str p, .scr _, _, _, _, _, _, e, _, _, r1, r2 => by cases e
/-- the items' answers, by places -/
theorem eqAll_at {f : D → D → Option Bool} {P : Value → Value → Bool → Prop} {g : G}
    (ih : ∀ x y b vx vy v u, f x y = some b → Rep X.K g vx x → Rep X.K g vy y → RelV vx v → RelV vy u → P v u b) :
    ∀ {xs ys : List D} {b : Bool} {vs ws : List V} {us zs : List Value}, eqAll f xs ys = some b → RepL X.K g vs xs → RepL X.K g ws ys → Vals vs us → Vals ws zs →
      ∃ e : Nat → Bool, (∀ j (h1 : j < us.length) (h2 : j < zs.length), P us[j] zs[j] (e j)) ∧ b = ((List.range (min us.length zs.length)).all e && us.length == zs.length)
  | [], [], b, _, _, _, _, h, .nil, .nil, .nil, .nil => by
    cases h
    exact ⟨fun _ => true, fun j h1 => absurd h1 (Nat.not_lt_zero _), rfl⟩
  | [], _ :: _, b, _, _, _, _, h, .nil, .cons _ _, .nil, .cons _ _ => by
    cases h
    exact ⟨fun _ => true, fun j h1 => absurd h1 (Nat.not_lt_zero _), by simp⟩
  | _ :: _, [], b, _, _, _, _, h, .cons _ _, .nil, .cons _ _, .nil => by
    cases h
    exact ⟨fun _ => true, fun j _ h1 => absurd h1 (Nat.not_lt_zero _), by simp⟩
  | x :: xs, y :: ys, b, _, _, _, _, h, .cons a1 b1, .cons a2 b2, .cons c1 d1, .cons c2 d2 => by
    simp only [eqAll] at h
    split at h
    · rename_i p q e1 e2
      cases h
      obtain ⟨e, he, hb⟩ := eqAll_at ih e2 b1 b2 d1 d2
      refine ⟨fun j => match j with | 0 => p | j + 1 => e j, fun j h1 h2 => ?_, ?_⟩
      · cases j with
        | zero => exact ih _ _ _ _ _ _ _ e1 a1 a2 c1 c2
        | succ j => exact he j (Nat.lt_of_succ_lt_succ h1) (Nat.lt_of_succ_lt_succ h2)
      · rw [hb, List.length_cons, List.length_cons, Nat.succ_min_succ, List.range_succ_eq_map, List.all_cons, List.all_map, ← Bool.and_assoc]
        congr 1
        simp
    · cases h
theorem same_true (I : Inv X pins σ H s) (sb : Sub g.F H) : ∀ (n : Nat) {x y : D} {b : Bool} {v : V}, eqvO n x y = some b → Rep X.K g v x → Rep X.K g v y → b = true := by
  have base : ∀ {x y : D} {b : Bool} {v : V}, eqS x y = some b → Rep X.K g v x → Rep X.K g v y → b = true := by
    intro x y b v e rx ry
    cases x <;> cases y <;> first
      | (cases e; done)
      | (simp only [eqS, Option.some.injEq] at e
         subst e
         cases rx <;> cases ry <;> simp)
  have all : ∀ {f : D → D → Option Bool}, (∀ {x y : D} {b : Bool} {v : V}, f x y = some b → Rep X.K g v x → Rep X.K g v y → b = true) →
      ∀ {xs ys : List D} {b : Bool} {vs : List V}, eqAll f xs ys = some b → RepL X.K g vs xs → RepL X.K g vs ys → b = true := by
    intro f ih xs
    induction xs with
    | nil =>
      intro ys b vs e r1 r2
      cases r1; cases r2; cases e; rfl
    | cons x xs ihx =>
      intro ys b vs e r1 r2
      cases r1 with
      | cons a1 b1 =>
        cases r2 with
        | cons a2 b2 =>
          simp only [eqAll] at e
          split at e
          · rename_i p q e1 e2
            cases e
            rw [ih e1 a1 a2, ihx e2 b1 b2]; rfl
          · cases e
  intro n
  induction n with
  | zero => exact base
  | succ n ih =>
    intro x y b v e rx ry
    cases x with
    | tup xs =>
      cases y with
      | tup ys =>
        cases rx with
        | tup h1 r1 =>
          cases ry with
          | tup h2 r2 =>
            have z := I.tuple_inj (sqT_mono sb h1) (sqT_mono sb h2)
            subst z
            exact all ih (show eqAll (eqvO n) _ _ = some b from e) r1 r2
      | lst ys =>
        cases rx with
        | tup h1 r1 =>
          cases ry with
          | lst h2 r2 => exact (tup_not_lst I (sqT_mono sb h1) (sb _ _ h2)).elim
      | _ => first | (cases e; done) | (cases rx; cases ry)
    | lst xs =>
      cases y with
      | lst ys =>
        cases rx with
        | lst h1 r1 =>
          cases ry with
          | lst h2 r2 =>
            have z := (sb _ _ h1).symm.trans (sb _ _ h2)
            cases z
            exact all ih (show eqAll (eqvO n) _ _ = some b from e) r1 r2
      | tup ys =>
        cases rx with
        | lst h1 r1 =>
          cases ry with
          | tup h2 r2 => exact (tup_not_lst I (sqT_mono sb h2) (sb _ _ h1)).elim
      | _ => first | (cases e; done) | (cases rx; cases ry)
    | _ => cases y <;> first | (cases e; done) | exact base e rx ry | (cases rx; cases ry)
theorem eqvO_at (I : Inv X pins σ H s) (sb : Sub g.F H) : ∀ (n : Nat) {x y : D} {b : Bool} {vx vy : V} {v u : Value} {A : Around}, A.units + n < cLine →
    eqvO n x y = some b → Rep X.K g vx x → Rep X.K g vy y → RelV vx v → RelV vy u → EqT X s A v u b := by
  intro n
  induction n with
  | zero => intro x y b vx vy v u A hu e rx ry r1 r2; exact eqS_at e rx ry r1 r2
  | succ n ih =>
    intro x y b vx vy v u A hu e rx ry r1 r2
    have hu1 : A.units < cLine := by omega
    have refs : ∀ {l m : Addr} {k : Bool}, (SeqAt.RcAt A s (.ref l) (.ref m) k ∧ SeqAt.RcNeAt A s (.ref l) (.ref m) (!k)) → (l = m → k = true) → EqT X s A (.ref l) (.ref m) k := fun {l m k} ⟨h, hn⟩ h' => by
      refine ⟨h, ?_, hn⟩
      by_cases z : l = m
      · rw [h' z, z]; exact SeqAt.EqAt.same _
      · exact SeqAt.EqAt.of_refs z h
    have step : ∀ {xs ys : List D} {vs ws : List V} {us zs : List Value} {b : Bool}, eqAll (eqvO n) xs ys = some b → RepL X.K g vs xs → RepL X.K g ws ys → Vals vs us → Vals ws zs →
        ∃ e : Nat → Bool, (∀ j (h1 : j < us.length) (h2 : j < zs.length), SeqAt.EqAt A.in1 s us[j] zs[j] (e j)) ∧ b = ((List.range (min us.length zs.length)).all e && us.length == zs.length) :=
      fun he q1 q2 q3 q4 => eqAll_at (P := fun v u b => SeqAt.EqAt A.in1 s v u b) (fun x y b vx vy v u e a1 a2 a3 a4 => (ih (A := A.in1) (by show A.units + 1 + n < cLine; omega) e a1 a2 a3 a4).2.1) he q1 q2 q3 q4
    have sT : ∀ {xs ys : List D}, x = .tup xs → y = .tup ys → EqT X s A v u b := by
      rintro xs ys rfl rfl
      have sm : ∀ {v : V}, Rep X.K g v (.tup xs) → Rep X.K g v (.tup ys) → b = true := fun h1 h2 => same_true I sb (n + 1) e h1 h2
      cases rx with
      | tup h1 q1 =>
        cases ry with
        | tup h2 q2 =>
          cases (show v = Value.ref _ from r1)
          cases (show u = Value.ref _ from r2)
          obtain ⟨us, rv, t1, _⟩ := I.tuple (sqT_mono sb h1)
          obtain ⟨zs, rz, t2, _⟩ := I.tuple (sqT_mono sb h2)
          obtain ⟨f, hf, hb⟩ := step e q1 q2 rv rz
          refine refs ?_ fun z => ?_
          · rw [hb]
            have hj : ∀ j (h1 : j < us.toArray.size) (h2 : j < zs.toArray.size), SeqAt.EqAt A.in1 s us.toArray[j] zs.toArray[j] (f j) := fun j h1 h2 => by
              have := hf j (by simpa using h1) (by simpa using h2)
              simpa using this
            have k := SeqAt.RcAt.tuples (e := f) t1 t2 hu1 hj
            have kn := SeqAt.RcNeAt.tuples (e := f) t1 t2 hu1 hj
            exact ⟨by simpa using k, by simpa using kn⟩
          · subst z
            exact sm (.tup h1 q1) (.tup h2 q2)
    have sL : ∀ {xs ys : List D}, x = .lst xs → y = .lst ys → EqT X s A v u b := by
      rintro xs ys rfl rfl
      have sm : ∀ {v : V}, Rep X.K g v (.lst xs) → Rep X.K g v (.lst ys) → b = true := fun h1 h2 => same_true I sb (n + 1) e h1 h2
      cases rx with
      | lst h1 q1 =>
        cases ry with
        | lst h2 q2 =>
          cases (show v = Value.ref _ from r1)
          cases (show u = Value.ref _ from r2)
          obtain ⟨us, rv, t1, _⟩ := I.list (.of (sb _ _ h1))
          obtain ⟨zs, rz, t2, _⟩ := I.list (.of (sb _ _ h2))
          obtain ⟨f, hf, hb⟩ := step e q1 q2 rv rz
          refine refs ?_ fun z => ?_
          · by_cases hl : us.length = zs.length
            · have hj : ∀ j (h1 : j < us.toArray.size) (h2 : j < zs.toArray.size), SeqAt.EqAt A.in1 s us.toArray[j] zs.toArray[j] (f j) := fun j h1 h2 => by
                have := hf j (by simpa using h1) (by simpa using h2)
                simpa using this
              have k := SeqAt.RcAt.lists (e := f) t1.isList t2.isList (by simpa using hl) hu1 hj
              have kn := SeqAt.RcNeAt.lists (e := f) t1.isList t2.isList (by simpa using hl) hu1 hj
              have : b = (List.range us.toArray.size).all f := by
                rw [hb, ← hl, Nat.min_self]; simp
              rw [this]; exact ⟨k, kn⟩
            · have : b = false := by rw [hb]; simp [hl]
              rw [this]
              exact ⟨SeqAt.RcAt.lists_lengths t1.isList t2.isList (by simpa using hl) hu1, SeqAt.RcNeAt.lists_lengths t1.isList t2.isList (by simpa using hl) hu1⟩
          · subst z
            exact sm (.lst h1 q1) (.lst h2 q2)
    -- the mixed ones
    have tupO : ∀ {xs : List D} {w : V} {c : Value}, Rep X.K g w (.tup xs) → RelV w c → ∃ a its, c = .ref a ∧ s.heap.IsTuple a its := by
      intro xs w c r rc
      cases r with
      | tup h q =>
        cases (show c = Value.ref _ from rc)
        obtain ⟨us, _, t, _⟩ := I.tuple (sqT_mono sb h)
        exact ⟨_, _, rfl, t⟩
    have lstO : ∀ {xs : List D} {w : V} {c : Value}, Rep X.K g w (.lst xs) → RelV w c → ∃ a its, c = .ref a ∧ s.heap.IsList a its := by
      intro xs w c r rc
      cases r with
      | lst h q =>
        cases (show c = Value.ref _ from rc)
        obtain ⟨us, _, t, _⟩ := I.list (.of (sb _ _ h))
        exact ⟨_, _, rfl, t.isList⟩
    cases x <;> cases y <;> first
      | (cases e; done)
      | exact eqS_at e rx ry r1 r2
      | exact sT rfl rfl
      | exact sL rfl rfl
      | (cases e
         obtain ⟨a, i1, rfl, t1⟩ := tupO rx r1
         obtain ⟨b, i2, rfl, t2⟩ := lstO ry r2
         exact ⟨SeqAt.RcAt.tuple_list t1 t2 hu1, SeqAt.EqAt.tuple_list t1 t2 hu1, SeqAt.RcNeAt.tuple_list t1 t2 hu1⟩)
      | (cases e
         obtain ⟨a, i1, rfl, t1⟩ := lstO rx r1
         obtain ⟨b, i2, rfl, t2⟩ := tupO ry r2
         exact ⟨SeqAt.RcAt.list_tuple t1 t2 hu1, SeqAt.EqAt.list_tuple t1 t2 hu1, SeqAt.RcNeAt.list_tuple t1 t2 hu1⟩)
      | (cases e
         obtain ⟨a, i1, rfl, t1⟩ := tupO rx r1
         cases ry
         first
           | (cases r2; first | exact ⟨SeqAt.RcAt.tuple_none t1 hu1, SeqAt.EqAt.tuple_none t1 hu1, SeqAt.RcNeAt.tuple_none t1 hu1⟩ | exact ⟨SeqAt.RcAt.tuple_bool _ t1 hu1, SeqAt.EqAt.tuple_bool _ t1 hu1, SeqAt.RcNeAt.tuple_bool _ t1 hu1⟩)
           | (obtain ⟨t, rfl⟩ := r2; first | exact ⟨SeqAt.RcAt.tuple_int _ _ t1 hu1, SeqAt.EqAt.tuple_int _ _ t1 hu1, SeqAt.RcNeAt.tuple_int _ _ t1 hu1⟩ | exact ⟨SeqAt.RcAt.tuple_str _ _ t1 hu1, SeqAt.EqAt.tuple_str _ _ t1 hu1, SeqAt.RcNeAt.tuple_str _ _ t1 hu1⟩))
      | (cases e
         obtain ⟨a, i1, rfl, t1⟩ := lstO rx r1
         cases ry
         first
           | (cases r2; first | exact ⟨SeqAt.RcAt.list_none t1 hu1, SeqAt.EqAt.list_none t1 hu1, SeqAt.RcNeAt.list_none t1 hu1⟩ | exact ⟨SeqAt.RcAt.list_bool _ t1 hu1, SeqAt.EqAt.list_bool _ t1 hu1, SeqAt.RcNeAt.list_bool _ t1 hu1⟩)
           | (obtain ⟨t, rfl⟩ := r2; first | exact ⟨SeqAt.RcAt.list_int _ _ t1 hu1, SeqAt.EqAt.list_int _ _ t1 hu1, SeqAt.RcNeAt.list_int _ _ t1 hu1⟩ | exact ⟨SeqAt.RcAt.list_str _ _ t1 hu1, SeqAt.EqAt.list_str _ _ t1 hu1, SeqAt.RcNeAt.list_str _ _ t1 hu1⟩))
      | (cases e
         obtain ⟨a, i1, rfl, t1⟩ := tupO ry r2
         cases rx
         first
           | (cases r1; first | exact ⟨SeqAt.RcAt.none_tuple t1 hu1, SeqAt.EqAt.none_tuple t1 hu1, SeqAt.RcNeAt.none_tuple t1 hu1⟩ | exact ⟨SeqAt.RcAt.bool_tuple _ t1 hu1, SeqAt.EqAt.bool_tuple _ t1 hu1, SeqAt.RcNeAt.bool_tuple _ t1 hu1⟩)
           | (obtain ⟨t, rfl⟩ := r1; first | exact ⟨SeqAt.RcAt.int_tuple _ _ t1 hu1, SeqAt.EqAt.int_tuple _ _ t1 hu1, SeqAt.RcNeAt.int_tuple _ _ t1 hu1⟩ | exact ⟨SeqAt.RcAt.str_tuple _ _ t1 hu1, SeqAt.EqAt.str_tuple _ _ t1 hu1, SeqAt.RcNeAt.str_tuple _ _ t1 hu1⟩))
      | (cases e
         obtain ⟨a, i1, rfl, t1⟩ := lstO ry r2
         cases rx
         first
           | (cases r1; first | exact ⟨SeqAt.RcAt.none_list t1 hu1, SeqAt.EqAt.none_list t1 hu1, SeqAt.RcNeAt.none_list t1 hu1⟩ | exact ⟨SeqAt.RcAt.bool_list _ t1 hu1, SeqAt.EqAt.bool_list _ t1 hu1, SeqAt.RcNeAt.bool_list _ t1 hu1⟩)
           | (obtain ⟨t, rfl⟩ := r1; first | exact ⟨SeqAt.RcAt.int_list _ _ t1 hu1, SeqAt.EqAt.int_list _ _ t1 hu1, SeqAt.RcNeAt.int_list _ _ t1 hu1⟩ | exact ⟨SeqAt.RcAt.str_list _ _ t1 hu1, SeqAt.EqAt.str_list _ _ t1 hu1, SeqAt.RcNeAt.str_list _ _ t1 hu1⟩))
end

section
variable {X : Cx} {W : WX}
def rEqM (K : PySem.W.Frag) (neg : Bool) : R2 := fun x y H Q => ∃ g dx dy b, Sub g.F H ∧ Rep K g x dx ∧ Rep K g y dy ∧ eqvO 40 dx dy = some b ∧ Q (.bl (b != neg)) H
theorem op_neM (hu : X.A.units + 64 < cLine) : OpR X (compareOp .NotEq) (rEqM X.K true) := by
  intro pins s σ H x y v u Q I rx ry ⟨g, dx, dy, b, sb, h1, h2, e, q⟩
  refine (eqvO_at I sb 40 (A := X.A) (by omega) e h1 h2 rx ry).2.2 X.prog X.w X.xe _ ⟨.bl (!b), H, I, rfl, ?_⟩
  have : (b != true) = !b := by cases b <;> rfl
  rw [this] at q; exact q
theorem op_eqM (hu : X.A.units + 64 < cLine) : OpR X (compareOp .Eq) (rEqM X.K false) := by
  intro pins s σ H x y v u Q I rx ry ⟨g, dx, dy, b, sb, h1, h2, e, q⟩
  refine (eqvO_at I sb 40 (A := X.A) (by omega) e h1 h2 rx ry).1 X.prog X.w X.xe _ ⟨.bl b, H, I, rfl, ?_⟩
  have : (b != false) = b := by cases b <;> rfl
  rw [this] at q; exact q
end
end MI
/-! # Comparisons as expressions and tests; and, or, not; a if t else b -/
namespace MI
open PySem L2

section
variable {X : Cx} {W : WX}
def opEq (neg : Bool) : S → RV → RV → Res RV := fun s a b => match asD s a, asD s b with
  | some x, some y => match eqvO 40 x y with
    | some r => .ok (.d (.bl (r != neg))) s
    | none => .stuck
  | _, _ => .stuck
theorem os_eq {neg : Bool} : OpS X W (rEqM X.K neg) (opEq neg) := by
  intro σ g s H Q x y ra rb ok rx ry nn q
  unfold opEq at q
  split at q
  · rename_i dx dy e1 e2
    split at q
    · rename_i r e
      obtain ⟨g1, l1, sb1, r1⟩ := asD_ok ok (GLe.refl g) ok.sub rx e1
      obtain ⟨g2, l2, sb2, r2⟩ := asD_ok ok l1 sb1 ry e2
      exact ⟨g2, dx, dy, r, sb2, r1.mono l2, r2, e, kE_d q ok (.bl _)⟩
    · exact q.elim
  · exact q.elim
/-! ### <, <=, >, >= of ints and texts -/
def fS (f : Str → Str → Bool) : S → RV → RV → Res RV := fun s a b => match asStr a, asStr b with
  | some x, some y => .ok (.d (.bl (f x y))) s
  | _, _ => .stuck
theorem fS_ok {f : Str → Str → Bool} : OpS X W (fun x y H Q => ∃ i j, x = .str i ∧ y = .str j ∧ Q (.bl (f i j)) H) (fS f) := by
  intro σ g s H Q x y ra rb ok rx ry nn q
  unfold fS at q
  split at q
  · rename_i i j e1 e2
    exact ⟨i, j, asStr_ok rx e1, asStr_ok ry e2, kE_d q ok (.bl _)⟩
  · exact q.elim
theorem fI0_ok {f : Int → Int → Bool} : OpS X W (rI0 fun i j => .bl (f i j)) (fI cT fun i j => .bl (f i j)) :=
  fun σ g s H Q x y ra rb ok rx ry nn q => rI0_of (fI_ok (C' := fun _ _ => True) (fun _ _ _ => trivial) (fun _ _ i j => .bl _) σ g s H Q x y ra rb ok rx ry nn q)
def strLt (x y : Str) : Bool := decide (x.cps.toList < y.cps.toList)
def opLt := orF (fI cT fun i j => .bl (decide (i < j))) (fS fun x y => strLt x y)
def opLe := orF (fI cT fun i j => .bl (decide (i ≤ j))) (fS fun x y => !strLt y x)
def opGt := orF (fI cT fun i j => .bl (decide (j < i))) (fS fun x y => strLt y x)
def opGe := orF (fI cT fun i j => .bl (decide (j ≤ i))) (fS fun x y => !strLt x y)
/-! ### in, not in, by == of data -/
def anyO (f : D → Option Bool) : List D → Option Bool
  | [] => some false
  | x :: xs => match f x, anyO f xs with
    | some a, some b => some (a || b)
    | _, _ => none
def asItems (s : S) (r : RV) : Option (List D) := match asTup r with
  | some xs => some xs
  | none => asLst s r
def opIn (neg : Bool) : S → RV → RV → Res RV := fun s a b => match asD s a, asItems s b with
  | some x, some ys => match anyO (fun y => eqvO 40 y x) ys with
    | some r => .ok (.d (.bl (r != neg))) s
    | none => .stuck
  | _, _ => .stuck
def rInM (K : PySem.W.Frag) (neg : Bool) : R2 := fun x y H Q => ∃ g a vs dx ys b, Sub g.F H ∧ y = .ref a ∧ (SqL K H a vs ∨ SqT K H a vs) ∧ Rep K g x dx ∧ RepL K g vs ys ∧ anyO (fun y => eqvO 40 y dx) ys = some b ∧ Q (.bl (b != neg)) H
end
section
variable {X : Cx} {pins : List (Addr × Obj)} {σ : St} {g : G} {H : Hp} {s : Shared}
theorem eqvO_fun (I : Inv X pins σ H s) (sb : Sub g.F H) : ∀ (n : Nat) {x x' y : D} {b b' : Bool} {v : V}, eqvO n x y = some b → eqvO n x' y = some b' → Rep X.K g v x → Rep X.K g v x' → b = b' := by
  have sc : ∀ {x x' : D} {v : V}, (∀ xs, x ≠ .tup xs) → (∀ xs, x ≠ .lst xs) → (∀ n, x ≠ .ref n) → (∀ kvs, x ≠ .dic kvs) → (∀ kvs, x ≠ .scr kvs) → Rep X.K g v x → Rep X.K g v x' → x = x' := by
    intro x x' v h1 h2 h3 h4 h5 r r'
    cases r with
    | non => cases r'; rfl
    | bl b => cases r'; rfl
    | int i => cases r'; rfl
    | str x => cases r'; rfl
    | tup _ _ => exact absurd rfl (h1 _)
    | lst _ _ => exact absurd rfl (h2 _)
    | dic _ _ => exact absurd rfl (h4 _)
    | ref n _ => exact absurd rfl (h3 _)
    | scr _ _ => exact absurd rfl (h5 _)
  have all : ∀ {f : D → D → Option Bool}, (∀ {x x' y : D} {b b' : Bool} {v : V}, f x y = some b → f x' y = some b' → Rep X.K g v x → Rep X.K g v x' → b = b') →
      ∀ {xs xs' ys : List D} {b b' : Bool} {vs : List V}, eqAll f xs ys = some b → eqAll f xs' ys = some b' → RepL X.K g vs xs → RepL X.K g vs xs' → b = b' := by
    intro f ih xs
    induction xs with
    | nil =>
      intro xs' ys b b' vs e e' r1 r2
      cases r1; cases r2
      rw [e] at e'; cases e'; rfl
    | cons x xs ihx =>
      intro xs' ys b b' vs e e' r1 r2
      cases r1 with
      | cons a1 b1 =>
        cases r2 with
        | cons a2 b2 =>
          cases ys with
          | nil => cases e; cases e'; rfl
          | cons y ys =>
            simp only [eqAll] at e e'
            split at e
            · rename_i p q e1 e2
              split at e'
              · rename_i p' q' e1' e2'
                cases e; cases e'
                rw [ih e1 e1' a1 a2, ihx e2 e2' b1 b2]
              · cases e'
            · cases e
  intro n
  induction n with
  | zero =>
    intro x x' y b b' v e e' r r'
    have := sc (x := x) (x' := x') (fun xs z => by subst z; cases y <;> cases e) (fun xs z => by subst z; cases y <;> cases e) (fun xs z => by subst z; cases y <;> cases e) (fun xs z => by subst z; cases y <;> cases e) (fun xs z => by subst z; cases y <;> cases e) r r'
    subst this
    rw [e] at e'; cases e'; rfl
  | succ n ih =>
    intro x x' y b b' v e e' r r'
    cases x with
    | tup xs =>
      cases r with
      | tup h1 r1 =>
        cases r' with
        | tup h2 r2 =>
          have z := I.tuple_inj (sqT_mono sb h1) (sqT_mono sb h2)
          subst z
          cases y with
          | tup ys => exact all (f := eqvO n) ih (show eqAll (eqvO n) _ _ = some b from e) (show eqAll (eqvO n) _ _ = some b' from e') r1 r2
          | dic _ => cases e
          | ref _ => cases e
          | scr _ => cases e
          | _ => cases e; cases e'; rfl
        | lst h2 r2 => exact (tup_not_lst I (sqT_mono sb h1) (sb _ _ h2)).elim
        | dic h2 r2 => cases y <;> cases e'
        | ref n _ => cases y <;> cases e'
        | scr _ _ => cases y <;> cases e'
    | lst xs =>
      cases r with
      | lst h1 r1 =>
        cases r' with
        | lst h2 r2 =>
          have z := (sb _ _ h1).symm.trans (sb _ _ h2)
          cases z
          cases y with
          | lst ys => exact all (f := eqvO n) ih (show eqAll (eqvO n) _ _ = some b from e) (show eqAll (eqvO n) _ _ = some b' from e') r1 r2
          | dic _ => cases e
          | ref _ => cases e
          | scr _ => cases e
          | _ => cases e; cases e'; rfl
        | tup h2 r2 => exact (tup_not_lst I (sqT_mono sb h2) (sb _ _ h1)).elim
        | dic h2 r2 => cases y <;> cases e'
        | ref n _ => cases y <;> cases e'
        | scr _ _ => cases y <;> cases e'
    | dic _ => cases y <;> cases e
    | ref _ => cases y <;> cases e
    | scr _ => cases y <;> cases e
    | _ =>
      have := sc (x' := x') (fun xs z => by cases z) (fun xs z => by cases z) (fun xs z => by cases z) (fun xs z => by cases z) (fun xs z => by cases z) r r'
      subst this
      rw [e] at e'; cases e'; rfl
theorem any_at (I : Inv X pins σ H s) (sb : Sub g.F H) {A : Around} (hu : A.units + 40 < cLine) {dx : D} {vx : V} {v : Value} (rx : Rep X.K g vx dx) (rv : RelV vx v) :
    ∀ {ys : List D} {b : Bool} {vs : List V} {us : List Value}, anyO (fun y => eqvO 40 y dx) ys = some b → RepL X.K g vs ys → Vals vs us →
      ∃ e : Value → Bool, (∀ u ∈ us, SeqAt.EqAt A s u v (e u)) ∧ b = us.any e := by
  classical
  -- a value's answer by the value alone
  let e : Value → Bool := fun u => decide (∃ w d, RelV w u ∧ Rep X.K g w d ∧ eqvO 40 d dx = some true)
  have he : ∀ {u : Value} {w : V} {d : D} {k : Bool}, RelV w u → Rep X.K g w d → eqvO 40 d dx = some k → e u = k := by
    intro u w d k r1 r2 q
    cases k with
    | true => exact decide_eq_true ⟨w, d, r1, r2, q⟩
    | false =>
      refine decide_eq_false fun ⟨w', d', r1', r2', q'⟩ => ?_
      cases r1.inj r1'
      cases eqvO_fun I sb 40 q q' r2 r2'
  suffices key : ∀ {ys : List D} {b : Bool} {vs : List V} {us : List Value}, anyO (fun y => eqvO 40 y dx) ys = some b → RepL X.K g vs ys → Vals vs us →
      (∀ u ∈ us, SeqAt.EqAt A s u v (e u)) ∧ b = us.any e by
    intro ys b vs us h r1 r2
    exact ⟨e, key h r1 r2⟩
  intro ys
  induction ys with
  | nil =>
    intro b vs us h r1 r2
    cases r1; cases r2; cases h
    exact ⟨(fun u hu => nomatch hu), rfl⟩
  | cons y ys ih =>
    intro b vs us h r1 r2
    cases r1 with
    | cons a1 b1 =>
      cases r2 with
      | cons c1 d1 =>
        simp only [anyO] at h
        split at h
        · rename_i p q e1 e2
          cases h
          obtain ⟨i1, i2⟩ := ih e2 b1 d1
          have z := (eqvO_at I sb 40 (A := A) hu e1 a1 rx c1 rv).2.1
          have ze := he c1 a1 e1
          refine ⟨fun u hu => ?_, ?_⟩
          · rcases List.mem_cons.mp hu with rfl | hu
            · rw [ze]; exact z
            · exact i1 u hu
          · rw [List.any_cons, ze, ← i2]
        · cases h
end
section
variable {X : Cx} {W : WX}
theorem op_inM (hu : X.A.units + 64 < cLine) : OpR X (compareOp .In) (rInM X.K false) := by
  intro pins s σ H x y v u Q I rx ry ⟨g, a, vs, dx, ys, b, sb, hy, hq, r1, r2, e, q⟩
  subst hy
  cases (show u = Value.ref a from ry)
  have q' : Q (.bl b) H := by
    have : (b != false) = b := by cases b <;> rfl
    rw [this] at q; exact q
  have hu' : X.A.in1.units + 40 < cLine := by show X.A.units + 1 + 40 < cLine; omega
  rcases hq with hq | hq
  · obtain ⟨its, r, pl, hz⟩ := I.list hq
    obtain ⟨f, hf, hb⟩ := any_at I sb hu' r1 rx e r2 r
    refine SeqAt.in_listAt f pl.isList (fun w hw => hf w (by simpa using hw)) ⟨.bl b, H, I, ?_, q'⟩
    show Value.bool _ = _
    rw [hb]; simp
  · obtain ⟨its, r, pl, hz⟩ := I.tuple hq
    obtain ⟨f, hf, hb⟩ := any_at I sb hu' r1 rx e r2 r
    refine SeqAt.in_tupleAt f pl (fun w hw => hf w (by simpa using hw)) ⟨.bl b, H, I, ?_, q'⟩
    show Value.bool _ = _
    rw [hb]; simp
theorem op_notInM (hu : X.A.units + 64 < cLine) : OpR X (compareOp .NotIn) (rInM X.K true) := by
  intro pins s σ H x y v u Q I rx ry ⟨g, a, vs, dx, ys, b, sb, hy, hq, r1, r2, e, q⟩
  subst hy
  cases (show u = Value.ref a from ry)
  have q' : Q (.bl (!b)) H := by
    have : (b != true) = !b := by cases b <;> rfl
    rw [this] at q; exact q
  have hu' : X.A.in1.units + 40 < cLine := by show X.A.units + 1 + 40 < cLine; omega
  rcases hq with hq | hq
  · obtain ⟨its, r, pl, hz⟩ := I.list hq
    obtain ⟨f, hf, hb⟩ := any_at I sb hu' r1 rx e r2 r
    refine SeqAt.notIn_listAt f pl.isList (fun w hw => hf w (by simpa using hw)) ⟨.bl (!b), H, I, ?_, q'⟩
    show Value.bool _ = _
    rw [hb]; simp
  · obtain ⟨its, r, pl, hz⟩ := I.tuple hq
    obtain ⟨f, hf, hb⟩ := any_at I sb hu' r1 rx e r2 r
    refine SeqAt.notIn_tupleAt f pl (fun w hw => hf w (by simpa using hw)) ⟨.bl (!b), H, I, ?_, q'⟩
    show Value.bool _ = _
    rw [hb]; simp
theorem os_in {neg : Bool} : OpS X W (rInM X.K neg) (opIn neg) := by
  intro σ g s H Q x y ra rb ok rx ry nn q
  unfold opIn at q
  split at q
  · rename_i dx ys e1 e2
    split at q
    · rename_i r e
      obtain ⟨g1, l1, sb1, r1⟩ := asD_ok ok (GLe.refl g) ok.sub rx e1
      unfold asItems at e2
      split at e2
      · rename_i zs e3
        cases e2
        obtain ⟨a, vs, rfl, h, r2⟩ := asTup_ok ok ry e3
        exact ⟨g1, a, vs, dx, ys, r, sb1, rfl, .inr h, r1, r2.mono l1, e, kE_d q ok (.bl _)⟩
      · obtain ⟨a, vs, rfl, h, r2⟩ := asLst_ok ok ry e2
        exact ⟨g1, a, vs, dx, ys, r, sb1, rfl, .inl (.of h), r1, r2.mono l1, e, kE_d q ok (.bl _)⟩
    · exact q.elim
  · exact q.elim
variable {a b c : Expr} {ma mb mc : M} {pos : Pos}
theorem me_eq (hu : X.A.units + 64 < cLine) (ha : ME X W a ma) (hb : ME X W b mb) : ME X W (.Compare a [.Eq] [b] pos) (mBin (opEq false) ma mb) := me_cmp (op_eqM hu) os_eq ha hb (nomark _)
theorem me_ne (hu : X.A.units + 64 < cLine) (ha : ME X W a ma) (hb : ME X W b mb) : ME X W (.Compare a [.NotEq] [b] pos) (mBin (opEq true) ma mb) := me_cmp (op_neM hu) os_eq ha hb (nomark _)
theorem or_lt : OpR X (compareOp .Lt) (fun x y H Q => rI0 (fun i j => .bl (decide (i < j))) x y H Q ∨ ∃ i j, x = .str i ∧ y = .str j ∧ Q (.bl (strLt i j)) H) := op_lt.or op_lt_str
theorem or_le : OpR X (compareOp .LtE) (fun x y H Q => rI0 (fun i j => .bl (decide (i ≤ j))) x y H Q ∨ ∃ i j, x = .str i ∧ y = .str j ∧ Q (.bl (!strLt j i)) H) := op_le.or op_le_str
theorem or_gt : OpR X (compareOp .Gt) (fun x y H Q => rI0 (fun i j => .bl (decide (j < i))) x y H Q ∨ ∃ i j, x = .str i ∧ y = .str j ∧ Q (.bl (strLt j i)) H) := op_gt.or op_gt_str
theorem or_ge : OpR X (compareOp .GtE) (fun x y H Q => rI0 (fun i j => .bl (decide (j ≤ i))) x y H Q ∨ ∃ i j, x = .str i ∧ y = .str j ∧ Q (.bl (!strLt i j)) H) := op_ge.or op_ge_str
theorem os_lt : OpS X W (fun x y H Q => rI0 (fun i j => .bl (decide (i < j))) x y H Q ∨ ∃ i j, x = .str i ∧ y = .str j ∧ Q (.bl (strLt i j)) H) opLt := fI0_ok.or fS_ok
theorem os_le : OpS X W (fun x y H Q => rI0 (fun i j => .bl (decide (i ≤ j))) x y H Q ∨ ∃ i j, x = .str i ∧ y = .str j ∧ Q (.bl (!strLt j i)) H) opLe := fI0_ok.or fS_ok
theorem os_gt : OpS X W (fun x y H Q => rI0 (fun i j => .bl (decide (j < i))) x y H Q ∨ ∃ i j, x = .str i ∧ y = .str j ∧ Q (.bl (strLt j i)) H) opGt := fI0_ok.or fS_ok
theorem os_ge : OpS X W (fun x y H Q => rI0 (fun i j => .bl (decide (j ≤ i))) x y H Q ∨ ∃ i j, x = .str i ∧ y = .str j ∧ Q (.bl (!strLt i j)) H) opGe := fI0_ok.or fS_ok
theorem me_lt (ha : ME X W a ma) (hb : ME X W b mb) : ME X W (.Compare a [.Lt] [b] pos) (mBin opLt ma mb) := me_cmp or_lt os_lt ha hb (nomark _)
theorem me_le (ha : ME X W a ma) (hb : ME X W b mb) : ME X W (.Compare a [.LtE] [b] pos) (mBin opLe ma mb) := me_cmp or_le os_le ha hb (nomark _)
theorem me_gt (ha : ME X W a ma) (hb : ME X W b mb) : ME X W (.Compare a [.Gt] [b] pos) (mBin opGt ma mb) := me_cmp or_gt os_gt ha hb (nomark _)
theorem me_ge (ha : ME X W a ma) (hb : ME X W b mb) : ME X W (.Compare a [.GtE] [b] pos) (mBin opGe ma mb) := me_cmp or_ge os_ge ha hb (nomark _)
theorem me_in (hu : X.A.units + 64 < cLine) (ha : ME X W a ma) (hb : ME X W b mb) (hm : behindInMarks .In b = false) : ME X W (.Compare a [.In] [b] pos) (mBin (opIn false) ma mb) := me_cmp (op_inM hu) os_in ha hb hm
theorem me_notIn (hu : X.A.units + 64 < cLine) (ha : ME X W a ma) (hb : ME X W b mb) (hm : behindInMarks .NotIn b = false) : ME X W (.Compare a [.NotIn] [b] pos) (mBin (opIn true) ma mb) := me_cmp (op_notInM hu) os_in ha hb hm
/-! ### is None -/
def isNonRV : RV → Bool
  | .d .non => true
  | _ => false
def opIsN (neg : Bool) : S → RV → RV → Res RV := fun s a b => match b with
  | .d .non => .ok (.d (.bl (isNonRV a != neg))) s
  | _ => .stuck
theorem isN_dec {K : PySem.W.Frag} {g : G} {s : S} {H : Hp} {x : V} {ra : RV} (h : RepRV K g s H x ra) : decide (x = .non) = isNonRV ra := by
  cases ra with
  | d y => cases (show Rep K g x y from h) <;> rfl
  | «at» i => cases (show x = _ from h); rfl
  | new o => obtain ⟨a, rfl, _⟩ := h; rfl
theorem os_isN : OpS X W (fun x y H Q => y = .non ∧ Q (.bl (decide (x = .non))) H) (opIsN false) := by
  intro σ g s H Q x y ra rb ok rx ry nn q
  unfold opIsN at q
  split at q
  · cases (show Rep _ _ _ _ from ry)
    refine ⟨rfl, ?_⟩
    rw [isN_dec rx]
    have : ∀ k : Bool, (k != false) = k := fun k => by cases k <;> rfl
    rw [this] at q
    exact kE_d q ok (.bl _)
  · exact q.elim
theorem os_notN : OpS X W (fun x y H Q => y = .non ∧ Q (.bl (!decide (x = .non))) H) (opIsN true) := by
  intro σ g s H Q x y ra rb ok rx ry nn q
  unfold opIsN at q
  split at q
  · cases (show Rep _ _ _ _ from ry)
    refine ⟨rfl, ?_⟩
    rw [isN_dec rx]
    have : ∀ k : Bool, (k != true) = !k := fun k => by cases k <;> rfl
    rw [this] at q
    exact kE_d q ok (.bl _)
  · exact q.elim
theorem me_isN {j p} (ha : ME X W a ma) : ME X W (.Compare a [.Is] [.Constant .none j p] pos) (mBin (opIsN false) ma (mC .non)) := me_cmp op_isN os_isN ha me_non (nomark _)
theorem me_notN {j p} (ha : ME X W a ma) : ME X W (.Compare a [.IsNot] [.Constant .none j p] pos) (mBin (opIsN true) ma (mC .non)) := me_cmp op_notN os_notN ha me_non (nomark _)
end
end MI
/-! # Tests: truth, and, or, not; a if t else b; chains -/
namespace MI
open PySem L2

def truthD : D → Option Bool
  | .non => some false
  | .bl b => some b
  | .int i => some (i != 0)
  | .str x => if x.length ≤ sizeLine then some ((x.length : Int) != 0) else none
  | .tup xs => some (!xs.isEmpty)
  | .lst xs => some (!xs.isEmpty)
  | .dic xs => some (!xs.isEmpty)
  | .ref _ => none
  | .scr xs => some (!xs.isEmpty)
def mTru (m : M) : S → Res Bool := fun s => (m s).bind fun r s1 => match (asD s1 r).bind truthD with
  | some b => .ok b s1
  | none => .stuck
def mNotT (m : S → Res Bool) : S → Res Bool := fun s => (m s).bind fun b s1 => .ok (!b) s1
def mAndT (a b : S → Res Bool) : S → Res Bool := fun s => (a s).bind fun c s1 => if c = true then b s1 else .ok false s1
def mOrT (a b : S → Res Bool) : S → Res Bool := fun s => (a s).bind fun c s1 => if c = true then .ok true s1 else b s1
/-- a test's answer as a value -/
def mVal (m : S → Res Bool) : M := fun s => (m s).bind fun b s1 => .ok (.d (.bl b)) s1
def mIf (t : S → Res Bool) (a b : M) : M := fun s => (t s).bind fun c s1 => if c = true then a s1 else b s1
/-- a bool alone -/
def mBl (m : M) : S → Res Bool := fun s => (m s).bind fun r s1 => match r with
  | .d (.bl b) => .ok b s1
  | _ => .stuck
section
variable {K : PySem.W.Frag} {W : WX} {σ : St} {g : G} {s : S} {H : Hp}
theorem isEmpty_L {vs : List V} {ds : List D} (r : RepL K g vs ds) : vs.isEmpty = ds.isEmpty := by cases r <;> rfl
theorem isEmpty_K {vs : List (Key × V)} {ds : List (Key × D)} (r : RepK K g vs ds) : vs.isEmpty = ds.isEmpty := by cases r <;> rfl
theorem truth_ok {v : V} {r : RV} {b : Bool} (ok : Ok K g s σ H) (h : RepRV K g s H v r) (e : (asD s r).bind truthD = some b) : TruV K v H b := by
  cases e1 : asD s r with
  | none => rw [e1] at e; cases e
  | some d =>
    rw [e1] at e
    have e2 : truthD d = some b := e
    obtain ⟨g1, l, sb, rp⟩ := asD_ok ok (GLe.refl g) ok.sub h e1
    cases rp with
    | non => cases e2; rfl
    | bl c => cases e2; rfl
    | int i => cases e2; rfl
    | str x =>
      simp only [truthD] at e2
      split at e2
      · rename_i hl
        cases e2
        exact ⟨hl, rfl⟩
      · cases e2
    | tup h1 r1 => cases e2; exact .inr (.inl ⟨_, sqT_mono sb h1, by rw [isEmpty_L r1]⟩)
    | lst h1 r1 => cases e2; exact .inl ⟨_, .of (sb _ _ h1), by rw [isEmpty_L r1]⟩
    | dic h1 r1 => cases e2; exact .inr (.inr ⟨_, sb _ _ h1, by rw [isEmpty_K r1]⟩)
    | ref n hn => cases e2
    | scr h1 r1 => cases e2; exact .inl ⟨_, sqL_mono sb h1, by rw [isEmpty_L r1]⟩
end
section
variable {X : Cx} {W : WX} {a b c : Expr} {ma mb mc : M} {ta tb : S → Res Bool} {pos : Pos} {rest : List Expr}
theorem mt_val (ha : ME X W a ma) (he : ∀ whole, isTrue a X.env whole = (do let v ← whole; standAt a.pos; holding [v] (truthy v)) := by intro _; rfl) : MT X W a (mTru ma) := by
  refine pt_imp (pt_truth ha he) fun σ H Q ⟨g, s, ok, h⟩ => ?_
  refine ⟨g, s, ok, (PostE.bind h).mono fun r g1 s1 H1 t1 k1 o1 h1 v rv => ?_⟩
  cases e : (asD s1 r).bind truthD with
  | none => rw [e] at h1; exact h1.elim
  | some k => rw [e] at h1; exact ⟨k, truth_ok o1 rv e, PostE.done h1 o1⟩
/-- a comparison (or what else is a bool) as a test -/
theorem mt_cmp {op : CmpOp} {r : R2} {f : S → RV → RV → Res RV} (ho : OpR X (compareOp op) r) (hs : OpS X W r f) (ha : ME X W a ma) (hb : ME X W b mb) (hm : behindInMarks op b = false) : MT X W (.Compare a [op] [b] pos) (mBl (mBin f ma mb)) := by
  refine pt_imp (pt_cmpR ho ha hb hm) fun σ H Q ⟨g, s, ok, h⟩ => ?_
  show tOp r (tM X.K W ma) (tM X.K W mb) σ H _
  refine tOp_of hs ok ((PostE.bind h).mono fun r g1 s1 H1 t1 k1 o1 h1 v rv => ?_)
  split at h1
  · rename_i k
    cases (show Rep _ _ _ _ from rv)
    exact ⟨k, rfl, PostE.done h1 o1⟩
  · exact h1.elim
theorem mt_not (ha : MT X W a ta) : MT X W (.UnaryOp .Not a pos) (mNotT ta) := by
  refine pt_imp (L2.pt_not ha) fun σ H Q ⟨g, s, ok, h⟩ => ?_
  exact ⟨g, s, ok, (PostE.bind h).mono fun b g1 s1 H1 t1 k1 o1 h1 => PostE.done (W := W) h1 o1⟩
def MW (X : Cx) (W : WX) (e : Expr) (m : S → Res Bool) : Prop := PW X e (tMT X.K W m)
theorem pw_imp {e : Expr} {t t' : TT} (h : PW X e t) (i : ∀ σ H Q, t' σ H Q → t σ H Q) : PW X e t' :=
  ⟨fun wh pins s σ H Q I q => h.run wh pins s σ H Q I (i σ H Q q)⟩
theorem mw_and1 (ha : MT X W a ta) : MW X W (.BoolOp .And [a] pos) ta := pw_and1 ha
theorem mw_or1 (ha : MT X W a ta) : MW X W (.BoolOp .Or [a] pos) ta := pw_or1 ha
theorem mw_and (ha : MT X W a ta) (hb : MW X W (.BoolOp .And (b :: rest) pos) tb) : MW X W (.BoolOp .And (a :: b :: rest) pos) (mAndT ta tb) := by
  refine pw_imp (pw_and ha hb) fun σ H Q ⟨g, s, ok, h⟩ => ?_
  refine ⟨g, s, ok, (PostE.bind h).mono fun c g1 s1 H1 t1 k1 o1 h1 => ?_⟩
  cases c with
  | true => rw [if_pos rfl] at h1; show (if true = true then _ else _); rw [if_pos rfl]; exact ⟨g1, s1, o1, h1⟩
  | false => rw [if_neg (by decide)] at h1; show (if false = true then _ else _); rw [if_neg (by decide)]; exact PostE.done h1 o1
theorem mw_or (ha : MT X W a ta) (hb : MW X W (.BoolOp .Or (b :: rest) pos) tb) : MW X W (.BoolOp .Or (a :: b :: rest) pos) (mOrT ta tb) := by
  refine pw_imp (pw_or ha hb) fun σ H Q ⟨g, s, ok, h⟩ => ?_
  refine ⟨g, s, ok, (PostE.bind h).mono fun c g1 s1 H1 t1 k1 o1 h1 => ?_⟩
  cases c with
  | true => rw [if_pos rfl] at h1; show (if true = true then _ else _); rw [if_pos rfl]; exact PostE.done h1 o1
  | false => rw [if_neg (by decide)] at h1; show (if false = true then _ else _); rw [if_neg (by decide)]; exact ⟨g1, s1, o1, h1⟩
theorem mt_w (h : MW X W a ta) : MT X W a ta := PW.pt h
/-! ### and, or, not as values: of bools -/
def mAndV (a b : M) : M := fun s => (a s).bind fun r s1 => match r with
  | .d (.bl c) => if c = true then b s1 else .ok (.d (.bl false)) s1
  | _ => .stuck
def mOrV (a b : M) : M := fun s => (a s).bind fun r s1 => match r with
  | .d (.bl c) => if c = true then .ok (.d (.bl true)) s1 else b s1
  | _ => .stuck
def mNotV (a : M) : M := fun s => (a s).bind fun r s1 => match r with
  | .d (.bl c) => .ok (.d (.bl (!c))) s1
  | _ => .stuck
/-- not of a value, by its truth -/
def mNotVT (a : M) : M := mVal (mNotT (mTru a))
theorem me_one {op} (ha : ME X W a ma) : ME X W (.BoolOp op [a] pos) ma := pe_one ha
theorem me_and (ha : ME X W a ma) (hb : ME X W (.BoolOp .And (b :: rest) pos) mb) : ME X W (.BoolOp .And (a :: b :: rest) pos) (mAndV ma mb) := by
  refine pe_imp (pe_and ha hb) fun σ H Q ⟨g, s, ok, h⟩ => ?_
  refine ⟨g, s, ok, (PostE.bind h).mono fun r g1 s1 H1 t1 k1 o1 h1 v rv => ?_⟩
  split at h1
  · rename_i c
    cases (show Rep _ _ _ _ from rv)
    refine ⟨c, rfl, ?_⟩
    cases c with
    | true => rw [if_pos rfl] at h1; rw [if_pos rfl]; exact ⟨g1, s1, o1, h1⟩
    | false => rw [if_neg (by decide)] at h1; rw [if_neg (by decide)]; exact kE_d h1 o1 (.bl _)
  · exact h1.elim
theorem me_or (ha : ME X W a ma) (hb : ME X W (.BoolOp .Or (b :: rest) pos) mb) : ME X W (.BoolOp .Or (a :: b :: rest) pos) (mOrV ma mb) := by
  refine pe_imp (pe_or ha hb) fun σ H Q ⟨g, s, ok, h⟩ => ?_
  refine ⟨g, s, ok, (PostE.bind h).mono fun r g1 s1 H1 t1 k1 o1 h1 v rv => ?_⟩
  split at h1
  · rename_i c
    cases (show Rep _ _ _ _ from rv)
    refine ⟨c, rfl, ?_⟩
    cases c with
    | true => rw [if_pos rfl] at h1; rw [if_pos rfl]; exact kE_d h1 o1 (.bl _)
    | false => rw [if_neg (by decide)] at h1; rw [if_neg (by decide)]; exact ⟨g1, s1, o1, h1⟩
  · exact h1.elim
theorem me_not (ha : ME X W a ma) : ME X W (.UnaryOp .Not a pos) (mNotV ma) := by
  refine pe_imp (pe_not ha) fun σ H Q ⟨g, s, ok, h⟩ => ?_
  refine ⟨g, s, ok, (PostE.bind h).mono fun r g1 s1 H1 t1 k1 o1 h1 v rv => ?_⟩
  split at h1
  · rename_i c
    cases (show Rep _ _ _ _ from rv)
    exact ⟨c, rfl, kE_d h1 o1 (.bl _)⟩
  · exact h1.elim
theorem me_if {t : S → Res Bool} (hc : MT X W c t) (ha : ME X W a ma) (hb : ME X W b mb) : ME X W (.IfExp c a b pos) (mIf t ma mb) := by
  refine pe_imp (pe_ifExp hc ha hb) fun σ H Q ⟨g, s, ok, h⟩ => ?_
  refine ⟨g, s, ok, (PostE.bind h).mono fun c g1 s1 H1 t1 k1 o1 h1 => ?_⟩
  cases c with
  | true => rw [if_pos rfl] at h1; show (if true = true then _ else _); rw [if_pos rfl]; exact ⟨g1, s1, o1, h1⟩
  | false => rw [if_neg (by decide)] at h1; show (if false = true then _ else _); rw [if_neg (by decide)]; exact ⟨g1, s1, o1, h1⟩
/-! ### a op b op' c -/
def mChain (f f' : S → RV → RV → Res RV) (a b c : M) : M := fun s => (mSettle a s).bind fun x s1 => (mSettle b s1).bind fun y s2 => (f s2 x y).bind fun z s3 => match z with
  | .d (.bl k) => if k = true then (c s3).bind fun w s4 => f' s4 y w else .ok (.d (.bl false)) s3
  | _ => .stuck
theorem tChain_of {r r' : R2} {f f' : S → RV → RV → Res RV} (hs : OpS X W r f) (hs' : OpS X W r' f') {σ : St} {H : Hp} {Q : VK} {g : G} {s : S} (ok : Ok X.K g s σ H)
    (h : PostE X.K W σ g s H (kE X.K Q) (mChain f f' ma mb mc s)) : tChain r r' (tM X.K W ma) (tM X.K W mb) (tM X.K W mc) σ H Q := by
  refine tM_settle ok (PostE.bind h) fun x g1 s1 H1 v t1 k1 o1 rv nn h1 => ?_
  refine tM_settle o1 (PostE.bind h1) fun y g2 s2 H2 u t2 k2 o2 ru nn2 h2 => ?_
  refine hs σ g2 s2 H2 _ v u x y o2 (rv.held nn t2 k2) ru nn ((PostE.bind h2).mono fun z g3 s3 H3 t3 k3 o3 h3 w rw' => ?_)
  split at h3
  · rename_i k
    cases (show Rep _ _ _ _ from rw')
    refine ⟨k, rfl, ?_⟩
    cases k with
    | true =>
      rw [if_pos rfl] at h3; rw [if_pos rfl]
      refine ⟨g3, s3, o3, (PostE.bind h3).mono fun q g4 s4 H4 t4 k4 o4 h4 w rw' => ?_⟩
      have ru3 : RepRV X.K g3 s3 H3 u y := ru.held nn2 t3 k3
      have ru4 : RepRV X.K g4 s4 H4 u y := ru3.held nn2 t4 k4
      exact hs' σ g4 s4 H4 Q u w y q o4 ru4 rw' nn2 h4
    | false => rw [if_neg (by decide)] at h3; rw [if_neg (by decide)]; exact kE_d h3 o3 (.bl _)
  · exact h3.elim
theorem me_chain {op op' : CmpOp} {r r' : R2} {f f' : S → RV → RV → Res RV} (ho : OpR X (compareOp op) r) (ho' : OpR X (compareOp op') r') (hs : OpS X W r f) (hs' : OpS X W r' f') (ha : ME X W a ma) (hb : ME X W b mb) (hc : ME X W c mc)
    (hm : lastMarks [op, op'] [b, c] = false := by with_unfolding_all rfl) : ME X W (.Compare a [op, op'] [b, c] pos) (mChain f f' ma mb mc) :=
  pe_imp (pe_chain ho ho' ha hb hc hm) fun _ _ _ ⟨_, _, ok, h⟩ => tChain_of hs hs' ok h
theorem mt_chain {op op' : CmpOp} {r r' : R2} {f f' : S → RV → RV → Res RV} (ho : OpR X (compareOp op) r) (ho' : OpR X (compareOp op') r') (hs : OpS X W r f) (hs' : OpS X W r' f') (ha : ME X W a ma) (hb : ME X W b mb) (hc : ME X W c mc)
    (hm : lastMarks [op, op'] [b, c] = false := by with_unfolding_all rfl) : MT X W (.Compare a [op, op'] [b, c] pos) (mBl (mChain f f' ma mb mc)) := by
  refine pt_imp (L2.pt_chain ho ho' ha hb hc hm) fun σ H Q ⟨g, s, ok, h⟩ => ?_
  refine tChain_of hs hs' ok ((PostE.bind h).mono fun r g1 s1 H1 t1 k1 o1 h1 v rv => ?_)
  split at h1
  · rename_i k
    cases (show Rep _ _ _ _ from rv)
    exact ⟨k, rfl, PostE.done h1 o1⟩
  · exact h1.elim
end
end MI
/-! # Argument lists, displays, own functions -/
namespace MI
open PySem PySem.Spec PyProof.Rows L2

def mANil : S → Res (List D) := fun s => .ok [] s
def mACons (a : M) (r : S → Res (List D)) : S → Res (List D) := fun s => (mLeak a s).bind fun d s1 => (r s1).bind fun ds s2 => .ok (d :: ds) s2
def mTup (m : S → Res (List D)) : M := fun s => (m s).bind fun ds s1 => if ds.length ≤ sizeLine then .ok (.d (.tup ds)) s1 else .stuck
def mLst (m : S → Res (List D)) : M := fun s => (m s).bind fun ds s1 => if ds.length ≤ sizeLine then .ok (.new (.lst ds)) s1 else .stuck

section
variable {K : PySem.W.Frag} {W : WX} {σ : L2.St} {g : G} {s : S} {H : Hp}
/-- the leaked reading of a part -/
theorem tM_leak {m : M} {Q : VK} {k : D → G → S → Hp → Prop} (ok : Ok K g s σ H)
    (h : PostE K W σ g s H k (mLeak m s)) (q : ∀ d g' s' H' v, Step g H g' H' → SlKeep g g' → Ok K g' s' σ H' → Rep K g' v d → k d g' s' H' → Q v H') : tM K W m σ H Q := by
  refine ⟨g, s, ok, (PostE.bind h).mono fun r g1 s1 H1 t1 k1 o1 h1 v rv => ?_⟩
  cases e : leak r s1 with
  | none => rw [e] at h1; exact h1.elim
  | some p =>
    obtain ⟨d, s2⟩ := p
    rw [e] at h1
    obtain ⟨g2, t2, k2, o2, rv2⟩ := leak_ok o1 rv e
    exact q d g2 s2 H1 v (t1.trans t2) (k1.trans k2) o2 rv2 (h1 g2 H1 t2 k2 o2)
end
section
variable {X : Cx} {W : WX} {e : Expr} {es : List Expr} {me : M} {m : S → Res (List D)} {pos : Pos}
theorem ma_nil : MA X W [] mANil := pa_imp pa_nil fun σ H Q ⟨g, s, ok, h⟩ => PostE.done h ok _ .nil
theorem ma_cons (ha : ME X W e me) (hr : MA X W es m) (hs : starEach (e :: es) X.env = (false, eval e X.env) :: starEach es X.env := by rfl) : MA X W (e :: es) (mACons me m) := by
  refine pa_imp (pa_cons ha hr hs) fun σ H Q ⟨g, s, ok, h⟩ => ?_
  refine tM_leak ok (PostE.bind h) fun d g1 s1 H1 v t1 k1 o1 rv h1 => ?_
  refine ⟨g1, s1, o1, (PostE.bind h1).mono fun ds g2 s2 H2 t2 k2 o2 h2 vs rs => ?_⟩
  exact PostE.done h2 o2 _ (.cons (rv.mono t2.le) rs)
theorem me_tup {x1} (h : MA X W es m) : ME X W (.Tuple es x1 pos) (mTup m) := by
  refine pe_imp (pe_tup h) fun σ H Q ⟨g, s, ok, h⟩ => ?_
  refine ⟨g, s, ok, (PostE.bind h).mono fun ds g1 s1 H1 t1 k1 o1 h1 vs rs => ?_⟩
  split at h1
  · rename_i hl
    exact ⟨by rw [rs.length]; exact hl, fun p hp => kE_tup h1 o1 hp rs⟩
  · exact h1.elim
theorem me_lst (h : MA X W es m) : ME X W (.List es pos) (mLst m) := by
  refine pe_imp (pe_lst h) fun σ H Q ⟨g, s, ok, h⟩ => ?_
  refine ⟨g, s, ok, (PostE.bind h).mono fun ds g1 s1 H1 t1 k1 o1 h1 vs rs => ?_⟩
  split at h1
  · rename_i hl
    exact ⟨by rw [rs.length]; exact hl, fun p hp => kE_new h1 o1 hp ⟨_, upd_same, rs⟩⟩
  · exact h1.elim
/-- of two readings of one expression the one that is not stuck -/
def orM (a b : M) : M := fun s => match a s with
  | .stuck => b s
  | r => r
theorem pe_or2 {t t' : TE} (h : PE X e t) (h' : PE X e t') : PE X e (fun σ H Q => t σ H Q ∨ t' σ H Q) :=
  ⟨fun pins s σ H Q I q => q.elim (h.run pins s σ H Q I) (h'.run pins s σ H Q I)⟩
theorem me_alt {ma mb : M} (ha : ME X W e ma) (hb : ME X W e mb) : ME X W e (orM ma mb) := by
  refine pe_imp (pe_or2 ha hb) fun σ H Q ⟨g, s, ok, h⟩ => ?_
  unfold orM at h
  cases q : ma s with
  | ok a s' => simp only [q] at h; exact .inl ⟨g, s, ok, by rw [q]; exact h⟩
  | exc c p s' => simp only [q] at h; exact .inl ⟨g, s, ok, by rw [q]; exact h⟩
  | stuck => simp only [q] at h; exact .inr ⟨g, s, ok, h⟩
end

/-! ### own functions -/
inductive CRes where
  | ok (d : D) (gl : List MObj) | exc (c : Str) (p : D) (gl : List MObj) | stuck
abbrev Fm := List D → List MObj → CRes
/-- a function's promise, by its mirror -/
def spM (K : PySem.W.Frag) (f : Fm) : Sp := fun vs H Q E => ∃ g gl ds, Ok K g ⟨[], gl⟩ [] H ∧ RepL K g vs ds ∧ match f ds gl with
  | .ok d gl' => ∀ v g' H', Step g H g' H' → Ok K g' ⟨[], gl'⟩ [] H' → Rep K g' v d → Q v H'
  | .exc c p gl' => ∀ cls dd g' H', Step g H g' H' → Ok K g' ⟨[], gl'⟩ [] H' → ExcRep K g' H' cls dd c p → E cls dd H'
  | .stuck => False
/-- a def's body as a mirror: n parameters, N slots -/
def mDef (n N : Nat) (body : S → Res Out) : Fm := fun ds gl => if ds.length = n then (match body ⟨ds.map Slot.val ++ List.replicate (N - n) Slot.none, gl⟩ with
  | .ok (.rt d) s => .ok d s.gl
  | .ok .nx s => .ok .non s.gl
  | .ok _ _ => .stuck
  | .exc c p s => .exc c p s.gl
  | .stuck => .stuck) else .stuck
def mCall (f : Fm) (m : S → Res (List D)) : M := fun s => (m s).bind fun ds s1 => match f ds s1.gl with
  | .ok d gl => .ok (.d d) { s1 with gl := gl }
  | .exc c p gl => .exc c p { s1 with gl := gl }
  | .stuck => .stuck

section
variable {K : PySem.W.Frag} {W : WX} {σ : L2.St} {g : G} {s : S} {H : Hp}
/-- the ghost for a callee: all that is not the store's or unchanging is protected -/
def G.callee (g : G) (gl : List MObj) (H : Hp) : G := { g with P := fun a => (∃ u, H a = some u) ∧ g.F a = none ∧ ¬ ∃ n, n < gl.length ∧ g.adr (.gl n) = a }
theorem callee_le (g : G) (gl : List MObj) (H : Hp) : GLe g (g.callee gl H) := ⟨Sub.refl _, Nat.le_refl _, fun _ _ => rfl⟩
/-- the ghost behind it -/
def G.back (g g' : G) : G := { g' with P := g.P, adr := fun l => match l with
  | .sl i => g.adr (.sl i)
  | .gl n => g'.adr (.gl n) }
theorem cell_sl0 {s : S} {i : Nat} {o : MObj} (e : s.env[i]? = some (.own o)) : cellOf s (.sl i) = some o := by
  show (match s.env[i]? with | some (.own o) => some o | _ => none) = _
  rw [e]
theorem gl_cell {s : S} {n : Nat} {o : MObj} (e : cellOf s (.gl n) = some o) : n < s.gl.length := (List.getElem?_eq_some_iff.mp e).1
theorem live_gl {g : G} {gl : List MObj} {a : Addr} (l : Live g ⟨[], gl⟩ a) : ∃ n, n < gl.length ∧ g.adr (.gl n) = a := by
  obtain ⟨l, o, e, z⟩ := l
  cases l with
  | sl i => exact nomatch (show (none : Option MObj) = some o from e)
  | gl n => exact ⟨n, gl_cell (s := ⟨[], gl⟩) e, z⟩
theorem Ok.callee (ok : Ok K g s σ H) : Ok K (g.callee s.gl H) ⟨[], s.gl⟩ [] H where
  sub := ok.sub
  cell := fun l o e => by
    cases l with
    | sl i => exact nomatch (show (none : Option MObj) = some o from e)
    | gl n =>
      obtain ⟨f, r⟩ := ok.cell (.gl n) o e
      exact ⟨f, r.mono (callee_le g s.gl H) rfl⟩
  inj := fun l l' o o' e e' z => by
    cases l with
    | sl i => exact nomatch (show (none : Option MObj) = some o from e)
    | gl n =>
      cases l' with
      | sl i => exact nomatch (show (none : Option MObj) = some o' from e')
      | gl n' => exact ok.inj (.gl n) (.gl n') o o' e e' z
  env := fun i x e => nomatch e
  len := rfl
  ng := ok.ng
  prot := fun a ⟨h1, h2, h3⟩ => ⟨h1, h2, fun l => h3 (live_gl l)⟩
theorem back_le {g' : G} {H' : Hp} {gl : List MObj} (t : Step (g.callee gl H) H g' H') : GLe g (g.back g') := ⟨t.le.F, t.le.ng, t.le.adr⟩
theorem back_ge {g' : G} : GLe g' (g.back g') := ⟨Sub.refl _, Nat.le_refl _, fun _ _ => rfl⟩
theorem prot_callee {a : Addr} (ok : Ok K g s σ H) (p : g.P a) : (g.callee s.gl H).P a := by
  obtain ⟨h1, h2, h3⟩ := ok.prot a p
  refine ⟨h1, h2, fun ⟨n, hn, z⟩ => h3 ⟨.gl n, s.gl[n], ?_, z⟩⟩
  show s.gl[n]? = _
  simp [hn]
theorem Ok.back {g' : G} {H' : Hp} {gl' : List MObj} (ok : Ok K g s σ H) (t : Step (g.callee s.gl H) H g' H') (ok' : Ok K g' ⟨[], gl'⟩ [] H') :
    Step g H (g.back g') H' ∧ SlKeep g (g.back g') ∧ Ok K (g.back g') { s with gl := gl' } σ H' := by
  have P' : g'.P = (g.callee s.gl H).P := t.P
  have own : ∀ i o, s.env[i]? = some (.own o) → (g.callee s.gl H).P (g.adr (.sl i)) := by
    intro i o e
    have ce := cell_sl0 e
    obtain ⟨f, r⟩ := ok.cell _ _ ce
    refine ⟨r.some, f, fun ⟨n, hn, z⟩ => ?_⟩
    have cg : cellOf s (.gl n) = some s.gl[n] := by show s.gl[n]? = _; simp [hn]
    exact nomatch ok.inj _ _ _ _ cg ce z
  have slc : ∀ i o, cellOf { s with gl := gl' } (.sl i) = some o → s.env[i]? = some (.own o) := by
    intro i o e
    have e' : (match s.env[i]? with | some (.own o) => some o | _ => none) = some o := e
    split at e'
    · rename_i o' h
      cases e'
      exact h
    · cases e'
  have glc : ∀ n o, cellOf { s with gl := gl' } (.gl n) = some o → cellOf (⟨[], gl'⟩ : S) (.gl n) = some o := fun n o e => e
  refine ⟨⟨back_le t, rfl, fun a p => t.keep a (prot_callee ok p)⟩, fun _ => rfl, ?_⟩
  refine ⟨ok'.sub, fun l o e => ?_, fun l l' o o' e e' z => ?_, fun i x e => (ok.env i x e).mono (back_le t) (fun _ => rfl), ok.len, ok'.ng, fun a p => ?_⟩
  · cases l with
    | sl i =>
      have e1 := slc i o e
      have p := own i o e1
      obtain ⟨_, r⟩ := ok.cell _ _ (cell_sl0 e1)
      exact ⟨(ok'.prot _ (by rw [P']; exact p)).2.1, r.mono (back_le t) (t.keep _ p)⟩
    | gl n =>
      obtain ⟨f, r⟩ := ok'.cell (.gl n) o (glc n o e)
      exact ⟨f, r.mono back_ge rfl⟩
  · cases l with
    | sl i =>
      have e1 := slc i o e
      cases l' with
      | sl j => exact ok.inj _ _ _ _ (cell_sl0 e1) (cell_sl0 (slc j o' e')) z
      | gl n => exact absurd ⟨.gl n, o', glc n o' e', z.symm⟩ (ok'.prot _ (by rw [P']; exact own i o e1)).2.2
    | gl n =>
      cases l' with
      | sl j => exact absurd ⟨.gl n, o, glc n o e, z⟩ (ok'.prot _ (by rw [P']; exact own j o' (slc j o' e'))).2.2
      | gl n' => exact ok'.inj (.gl n) (.gl n') o o' (glc n o e) (glc n' o' e') z
  · have q := prot_callee ok p
    obtain ⟨h1, h2, h3⟩ := ok'.prot a (by rw [P']; exact q)
    refine ⟨h1, h2, fun ⟨l, o, e, z⟩ => ?_⟩
    cases l with
    | sl i => exact (ok.prot a p).2.2 ⟨.sl i, o, cell_sl0 (slc i o e), z⟩
    | gl n => exact h3 ⟨.gl n, o, glc n o e, z⟩
/-- a call at the level of what is wanted -/
theorem sp_call {f : Fm} {vs : List V} {ds : List D} {Q : VK} {E : XK} (ok : Ok K g s σ H) (r : RepL K g vs ds)
    (h : PostE K W σ g s H (kE K Q) (match f ds s.gl with
      | .ok d gl => .ok (.d d) { s with gl := gl }
      | .exc c p gl => .exc c p { s with gl := gl }
      | .stuck => .stuck)) (hE : ∀ cls d H, W cls d σ H → E cls d H) : spM K f vs H Q E := by
  refine ⟨g.callee s.gl H, s.gl, ds, ok.callee, r.mono (callee_le g s.gl H), ?_⟩
  cases e : f ds s.gl with
  | ok d gl' =>
    rw [e] at h
    intro v g' H' t o' rv
    obtain ⟨t2, k2, o2⟩ := ok.back t o'
    exact h _ _ t2 k2 o2 v (show Rep K (g.back g') v d from rv.mono back_ge)
  | exc c p gl' =>
    rw [e] at h
    intro cls dd g' H' t o' rv
    obtain ⟨t2, k2, o2⟩ := ok.back t o'
    exact hE _ _ _ (h cls dd _ _ t2 k2 o2 (rv.mono back_ge))
  | stuck => rw [e] at h; exact h
end
section
variable {X : Cx} {W : WX} {e : Expr} {es : List Expr} {me : M} {m : S → Res (List D)} {pos p : Pos} {k : Nat} {f : Addr} {fd : FuncData} {ps : List Str} {fm : Fm} {x : Str}
theorem me_call (F : FnOk X.prog X.w X.K X.mg X.base (L2.CX X.prog X.w) k f fd ps (spM X.K fm)) (hr : Room k X.A) (hg : Gl X x) (hm : X.mg x = some (.ref f)) (hk : PySem.W.keepIn X.K (.ref f) = true) (hb : Binds X.K fd ps []) (tk : Takes X W)
    (ha : MA X W (e :: es) m) (hdb : (x == ("__debug__" : Str)) = false := by decide) (he : starEach (e :: es) X.env = (false, eval e X.env) :: starEach es X.env := by rfl) (hpl : (backTo pos (starEach es X.env)).any (·.1) = false := by rfl) :
    ME X W (.Call (.Name x p) (e :: es) [] pos) (mCall fm m) := by
  refine pe_imp (pe_callS F hr hg hm hk hb (fun σ => passAt tk σ) ha hdb he hpl) fun σ H Q ⟨g, s, ok, h⟩ => ?_
  refine ⟨g, s, ok, (PostE.bind h).mono fun ds g1 s1 H1 t1 k1 o1 h1 vs rs => ?_⟩
  exact sp_call o1 rs h1 fun _ _ _ h => h
end

/-! ### a def keeps its mirror's promise -/
theorem Ok.drop {K : PySem.W.Frag} {σ : L2.St} {g : G} {s : S} {H : Hp} (ok : Ok K g s σ H) : Ok K g ⟨[], s.gl⟩ [] H where
  sub := ok.sub
  cell := fun l o e => by
    cases l with
    | sl i => exact nomatch (show (none : Option MObj) = some o from e)
    | gl n => exact ok.cell (.gl n) o e
  inj := fun l l' o o' e e' z => by
    cases l with
    | sl i => exact nomatch (show (none : Option MObj) = some o from e)
    | gl n =>
      cases l' with
      | sl i => exact nomatch (show (none : Option MObj) = some o' from e')
      | gl n' => exact ok.inj (.gl n) (.gl n') o o' e e' z
  env := fun i x e => nomatch e
  len := rfl
  ng := ok.ng
  prot := fun a p => by
    obtain ⟨h1, h2, h3⟩ := ok.prot a p
    refine ⟨h1, h2, fun ⟨l, o, e, z⟩ => ?_⟩
    cases l with
    | sl i => exact nomatch (show (none : Option MObj) = some o from e)
    | gl n => exact h3 ⟨.gl n, o, e, z⟩
theorem env_start {K : PySem.W.Frag} {g : G} {vs : List V} {ds : List D} {N : List Str} (r : RepL K g vs ds) {i : Nat} {x : Slot} (e : (ds.map Slot.val ++ List.replicate (N.length - ds.length) Slot.none)[i]? = some x) : SlotRep K g (L2.start N vs) i x := by
  have hl := r.length
  by_cases h : i < ds.length
  · rw [List.getElem?_append_left (by simpa using h), List.getElem?_map] at e
    obtain ⟨d, hd⟩ : ∃ d, ds[i]? = some d := ⟨_, List.getElem?_eq_getElem h⟩
    rw [hd] at e
    cases e
    obtain ⟨v, hv, rv⟩ := r.get hd
    refine ⟨v, ?_, rv⟩
    unfold L2.start
    rw [List.getElem?_append_left (by simpa [hl] using h), List.getElem?_map, hv]
    rfl
  · rw [List.getElem?_append_right (by simpa using h)] at e
    have := (List.mem_replicate.mp (List.mem_of_getElem? e)).2
    subst this
    trivial
theorem Ok.enter {K : PySem.W.Frag} {g : G} {gl : List MObj} {H : Hp} {vs : List V} {ds : List D} {N : List Str} (ok : Ok K g ⟨[], gl⟩ [] H) (r : RepL K g vs ds) (hN : ds.length ≤ N.length) :
    Ok K g ⟨ds.map Slot.val ++ List.replicate (N.length - ds.length) Slot.none, gl⟩ (L2.start N vs) H := by
  have slc : ∀ i o, cellOf ⟨ds.map Slot.val ++ List.replicate (N.length - ds.length) Slot.none, gl⟩ (.sl i) = some o → False := by
    intro i o e
    have e' : (match (ds.map Slot.val ++ List.replicate (N.length - ds.length) Slot.none)[i]? with | some (.own o) => some o | _ => none) = some o := e
    split at e'
    · rename_i o' h
      rcases List.mem_append.mp (List.mem_of_getElem? h) with z | z
      · obtain ⟨d, _, z⟩ := List.mem_map.mp z
        cases z
      · cases (List.mem_replicate.mp z).2
    · cases e'
  refine ⟨ok.sub, fun l o e => ?_, fun l l' o o' e e' z => ?_, fun i x e => env_start r e, ?_, ok.ng, fun a p => ?_⟩
  · cases l with
    | sl i => exact (slc i o e).elim
    | gl n => exact ok.cell (.gl n) o e
  · cases l with
    | sl i => exact (slc i o e).elim
    | gl n =>
      cases l' with
      | sl i => exact (slc i o' e').elim
      | gl n' => exact ok.inj (.gl n) (.gl n') o o' e e' z
  · have hl := r.length
    unfold L2.start
    simp [hl]
  · obtain ⟨h1, h2, h3⟩ := ok.prot a p
    refine ⟨h1, h2, fun ⟨l, o, e, z⟩ => ?_⟩
    cases l with
    | sl i => exact (slc i o e).elim
    | gl n => exact h3 ⟨.gl n, o, e, z⟩
theorem fn_mirror {P : Program} {w : World} {K : PySem.W.Frag} {mg : Str → Option Value} {base : Heap} {x qual : Str} {params : Arguments} {body : List Stmt} {scope : Scope} {dvs : List V} {kws : List (Str × V)} {f : Addr} {fd : FuncData} {N ps : List Str} {k : Nat} {m : S → Res Out}
    (F : FunD K x qual params body scope dvs kws f fd) (Sc : FnScope N ps scope) (hN : ps.length ≤ N.length)
    (hbody : ∀ (cdv : Value) (A : Around) (outer : List Env) (s : Shared) (H : Hp) (E : XK), Room k (A.deeper (envOfC qual scope s.heap.objs.size f cdv)) →
      MSs (cxOf (L2.CX P w) P w K mg base N qual scope f cdv A outer s H E) (fun cls d _ H => E cls d H) body m) :
    FnOk P w K mg base (L2.CX P w) (k + 1) f fd ps (spM K (mDef ps.length N.length m)) := by
  refine F.ok Sc (fun vs H Q E h => ?_) (fun cdv A outer s H vs Q E hr h => ⟨_, hbody cdv A outer s H E hr, ?_⟩)
  · obtain ⟨g, gl, ds, ok, r, h⟩ := h
    unfold mDef at h
    by_cases z : ds.length = ps.length
    · exact r.length.trans z
    · rw [if_neg z] at h; exact h.elim
  · obtain ⟨g, gl, ds, ok, r, h⟩ := h
    unfold mDef at h
    by_cases z : ds.length = ps.length
    · rw [if_pos z] at h
      have o1 := ok.enter (N := N) r (by rw [z]; exact hN)
      refine ⟨g, _, o1, ?_⟩
      rw [z]
      cases e : m ⟨ds.map Slot.val ++ List.replicate (N.length - ps.length) Slot.none, gl⟩ with
      | ok a s' =>
        rw [e] at h
        cases a with
        | nx => exact fun σ' g' H' t o' => h _ _ _ t o'.drop .non
        | rt d => exact fun v σ' g' H' t o' rv => h _ _ _ t o'.drop rv
        | bk => exact h.elim
        | ct => exact h.elim
      | exc c p s' => rw [e] at h; exact fun σ' cls d g' H' t o' rv => h _ _ _ _ t o'.drop rv
      | stuck => rw [e] at h; exact h
    · rw [if_neg z] at h; exact h.elim
end MI
/-! # Statements -/
namespace MI
open PySem L2

section
variable {K : PySem.W.Frag} {W : WX} {σ : St} {g : G} {s : S} {H : Hp} {D : Ends}
theorem PostS.nx (h : PostS K W g s H D (.ok .nx s)) (o : Ok K g s σ H) : D.nx σ H := h σ g H (Step.refl _ _) o
end
/-! ### stores to names -/
def G.put (g : G) (i : Nat) (a : Addr) : G := { g with adr := fun l => if l = .sl i then a else g.adr l }
def assign (i : Nat) : RV → S → Option S
  | .d x, s => if i < s.env.length then some { s with env := s.env.set i (.val x) } else none
  | .new o, s => if i < s.env.length then some { s with env := s.env.set i (.own o) } else none
  | .at j, s => match leak (.at j) s with
    | some (x, s1) => if i < s1.env.length then some { s1 with env := s1.env.set i (.val x) } else none
    | none => none
section
variable {K : PySem.W.Frag} {W : WX} {σ : St} {g : G} {s : S} {H : Hp}
theorem cellOf_set {i : Nat} {x : Slot} (hi : i < s.env.length) {l : Loc} {o : MObj} (h : cellOf { s with env := s.env.set i x } l = some o) :
    (l = .sl i ∧ x = .own o) ∨ (l ≠ .sl i ∧ cellOf s l = some o) := by
  cases l with
  | gl n => exact .inr ⟨(fun z => nomatch z), h⟩
  | sl j =>
    have h' : (match (s.env.set i x)[j]? with | some (.own o) => some o | _ => none) = some o := h
    by_cases z : j = i
    · subst z
      rw [List.getElem?_set_self hi] at h'
      refine .inl ⟨rfl, ?_⟩
      cases x with
      | own w => cases h'; rfl
      | _ => cases h'
    · rw [List.getElem?_set_ne (Ne.symm z)] at h'
      exact .inr ⟨fun q => z (by cases q; rfl), h'⟩
theorem Ok.setVal {i : Nat} {v : V} {x : D} (ok : Ok K g s σ H) (r : Rep K g v x) (hi : i < s.env.length) : Ok K g { s with env := s.env.set i (.val x) } (σ.set i (some v)) H := by
  have sub : ∀ {l o}, cellOf { s with env := s.env.set i (.val x) } l = some o → cellOf s l = some o := fun h => by
    rcases cellOf_set hi h with ⟨_, z⟩ | ⟨_, z⟩
    · cases z
    · exact z
  refine ⟨ok.sub, fun l o e => ok.cell l o (sub e), fun l l' o o' e e' z => ok.inj l l' o o' (sub e) (sub e') z, fun j y e => ?_, by simpa using ok.len, ok.ng, fun a p => ?_⟩
  · have hi' : i < σ.length := by rw [← ok.len]; exact hi
    by_cases z : j = i
    · subst z
      have e' : (s.env.set j (.val x))[j]? = some y := e
      rw [List.getElem?_set_self hi] at e'
      cases e'
      exact ⟨v, List.getElem?_set_self hi', r⟩
    · have e' : (s.env.set i (.val x))[j]? = some y := e
      rw [List.getElem?_set_ne (Ne.symm z)] at e'
      have := ok.env j y e'
      cases y with
      | none => trivial
      | val d => obtain ⟨w, q, r⟩ := this; exact ⟨w, by rw [List.getElem?_set_ne (Ne.symm z)]; exact q, r⟩
      | own o => show (σ.set i (some v))[j]? = _; rw [List.getElem?_set_ne (Ne.symm z)]; exact this
  · obtain ⟨h1, h2, h3⟩ := ok.prot a p
    exact ⟨h1, h2, fun ⟨l, o, e, z⟩ => h3 ⟨l, o, sub e, z⟩⟩
theorem put_le {i : Nat} {a : Addr} : GLe g (g.put i a) := by
  refine ⟨Sub.refl _, Nat.le_refl _, fun n _ => ?_⟩
  show (if Loc.gl n = Loc.sl i then a else g.adr (.gl n)) = _
  rw [if_neg (by intro z; cases z)]
theorem put_step {i : Nat} {a : Addr} : Step g H (g.put i a) H := ⟨put_le, rfl, fun _ _ => rfl⟩
theorem put_same {i : Nat} {a : Addr} : (g.put i a).adr (.sl i) = a := if_pos rfl
theorem put_ne {i : Nat} {a : Addr} {l : Loc} (h : l ≠ .sl i) : (g.put i a).adr l = g.adr l := if_neg h
theorem Ok.setOwn {i : Nat} {a : Addr} {o : MObj} (ok : Ok K g s σ H) (hi : i < s.env.length) (n : g.F a = none) (np : ¬ g.P a) (nl : ¬ Live g s a) (q : ObjRep K g H a o) :
    Ok K (g.put i a) { s with env := s.env.set i (.own o) } (σ.set i (some (.ref a))) H := by
  have cs : ∀ {l w}, cellOf { s with env := s.env.set i (.own o) } l = some w → (l = .sl i ∧ w = o) ∨ (l ≠ .sl i ∧ cellOf s l = some w) := by
    intro l w h
    rcases cellOf_set hi h with ⟨e1, z⟩ | z
    · cases z; exact .inl ⟨e1, rfl⟩
    · exact .inr z
  refine ⟨ok.sub, fun l w e => ?_, fun l l' w w' e e' z => ?_, fun j y e => ?_, by simpa using ok.len, ok.ng, fun b p => ?_⟩
  · rcases cs e with ⟨rfl, rfl⟩ | ⟨hl, e⟩
    · rw [put_same]; exact ⟨n, q.mono put_le rfl⟩
    · rw [put_ne hl]
      obtain ⟨f, r⟩ := ok.cell l w e
      exact ⟨f, r.mono put_le rfl⟩
  · rcases cs e with ⟨e1, _⟩ | ⟨hl, e1⟩
    · rcases cs e' with ⟨e2, _⟩ | ⟨hl', e2⟩
      · rw [e1, e2]
      · rw [e1, put_same, put_ne hl'] at z
        exact absurd ⟨l', w', e2, z.symm⟩ nl
    · rcases cs e' with ⟨e2, _⟩ | ⟨hl', e2⟩
      · rw [e2, put_same, put_ne hl] at z
        exact absurd ⟨l, w, e1, z⟩ nl
      · rw [put_ne hl, put_ne hl'] at z
        exact ok.inj l l' w w' e1 e2 z
  · have hi' : i < σ.length := by rw [← ok.len]; exact hi
    by_cases z : j = i
    · subst z
      have e' : (s.env.set j (.own o))[j]? = some y := e
      rw [List.getElem?_set_self hi] at e'
      cases e'
      show (σ.set j (some (.ref a)))[j]? = _
      rw [put_same, List.getElem?_set_self hi']
    · have e' : (s.env.set i (.own o))[j]? = some y := e
      rw [List.getElem?_set_ne (Ne.symm z)] at e'
      have := ok.env j y e'
      cases y with
      | none => trivial
      | val d => obtain ⟨w, q, r⟩ := this; exact ⟨w, by rw [List.getElem?_set_ne (Ne.symm z)]; exact q, r.mono put_le⟩
      | own w =>
        show (σ.set i (some (.ref a)))[j]? = _
        rw [List.getElem?_set_ne (Ne.symm z), put_ne (fun q => z (by cases q; rfl))]; exact this
  · obtain ⟨h1, h2, h3⟩ := ok.prot b p
    refine ⟨h1, h2, fun ⟨l, w, e, z⟩ => ?_⟩
    rcases cs e with ⟨rfl, rfl⟩ | ⟨hl, e⟩
    · rw [put_same] at z
      exact np (z ▸ p)
    · rw [put_ne hl] at z
      exact h3 ⟨l, w, e, z⟩
theorem assign_ok {i : Nat} {v : V} {r : RV} {s' : S} (ok : Ok K g s σ H) (h : RepRV K g s H v r) (e : assign i r s = some s') :
    ∃ g', Step g H g' H ∧ Ok K g' s' (σ.set i (some v)) H := by
  cases r with
  | d x =>
    simp only [assign] at e
    split at e
    · rename_i hi
      cases e
      exact ⟨g, Step.refl _ _, ok.setVal h hi⟩
    · cases e
  | new o =>
    obtain ⟨a, rfl, n, np, nl, q⟩ := h
    simp only [assign] at e
    split at e
    · rename_i hi
      cases e
      exact ⟨_, put_step, ok.setOwn hi n np nl q⟩
    · cases e
  | «at» j =>
    simp only [assign] at e
    split at e
    · rename_i x s1 e1
      split at e
      · rename_i hi
        cases e
        obtain ⟨g1, t1, k1, o1, r1⟩ := leak_ok ok h e1
        exact ⟨g1, t1, o1.setVal r1 hi⟩
      · cases e
    · cases e
end

/-! ### small statements -/
def mNx : S → Res Out := fun s => .ok .nx s
def mSeq (a b : S → Res Out) : S → Res Out := fun s => match a s with
  | .ok .nx s1 => b s1
  | r => r
def mExpr (m : M) : S → Res Out := fun s => (m s).bind fun _ s1 => .ok .nx s1
def mRet (m : M) : S → Res Out := fun s => (mLeak m s).bind fun d s1 => .ok (.rt d) s1
def mRetN : S → Res Out := fun s => .ok (.rt .non) s
def mIfS (t : S → Res Bool) (a b : S → Res Out) : S → Res Out := fun s => (t s).bind fun c s1 => if c = true then a s1 else b s1
def mSet (i : Nat) (m : M) : S → Res Out := fun s => (m s).bind fun r s1 => match assign i r s1 with
  | some s2 => .ok .nx s2
  | none => .stuck
def mBrk : S → Res Out := fun s => .ok .bk s
def mCont : S → Res Out := fun s => .ok .ct s
section
variable {X : Cx} {W : WX} {e c : Expr} {me : M} {t : S → Res Bool} {st : Stmt} {a b rest : List Stmt} {ma mb : S → Res Out} {pos : Pos}
theorem mss_nil : MSs X W [] mNx := pss_imp pss_nil fun D σ H ⟨g, s, ok, h⟩ => PostS.nx h ok
theorem mss_cons (h1 : MS X W st ma) (h2 : MSs X W rest mb) : MSs X W (st :: rest) (mSeq ma mb) := by
  refine pss_imp (pss_cons h1 h2) fun D σ H ⟨g, s, ok, h⟩ => ⟨g, s, ok, ?_⟩
  unfold mSeq at h
  cases e : ma s with
  | ok o s1 =>
    simp only [e] at h
    cases o with
    | nx => exact fun σ' g' H' t o' => ⟨g', s1, o', PostS.after h t⟩
    | rt d => exact h
    | bk => exact h
    | ct => exact h
  | exc c p s1 => simp only [e] at h; exact h
  | stuck => simp only [e] at h; exact h
theorem mss_one (h1 : MS X W st ma) : MSs X W [st] ma := pss_one h1
theorem ms_pass : MS X W (.Pass pos) mNx := ps_imp ps_pass fun D σ H ⟨g, s, ok, h⟩ => PostS.nx h ok
theorem ms_break : MS X W (.Break pos) mBrk := ps_imp ps_break fun D σ H ⟨g, s, ok, h⟩ => h σ g H (Step.refl _ _) ok
theorem ms_continue : MS X W (.Continue pos) mCont := ps_imp ps_continue fun D σ H ⟨g, s, ok, h⟩ => h σ g H (Step.refl _ _) ok
theorem ms_doc {x j p p'} : MS X W (.Expr (.Constant (.str x) j p) p') mNx := ps_imp ps_doc fun D σ H ⟨g, s, ok, h⟩ => PostS.nx h ok
theorem ms_expr (he : ME X W e me) (hs : swapsWith e none pos.line X.env = pure false := by rfl) : MS X W (.Expr e pos) (mExpr me) := by
  refine ps_imp (ps_expr he hs) fun D σ H ⟨g, s, ok, h⟩ => ?_
  exact ⟨g, s, ok, (PostS.bind h).mono fun r g1 s1 H1 t1 k1 o1 h1 v rv => PostS.nx h1 o1⟩
theorem ms_ret (he : ME X W e me) : MS X W (.Return (some e) pos) (mRet me) := by
  refine ps_imp (ps_ret he) fun D σ H ⟨g, s, ok, h⟩ => ?_
  exact tM_leak ok (PostS.bind h) fun d g1 s1 H1 v t1 k1 o1 rv h1 => h1 v σ g1 H1 (Step.refl _ _) o1 rv
theorem ms_retN : MS X W (.Return none pos) mRetN := ps_imp ps_retN fun D σ H ⟨g, s, ok, h⟩ => h .non σ g H (Step.refl _ _) ok .non
theorem ms_if (hc : MT X W c t) (ha : MSs X W a ma) (hb : MSs X W b mb) : MS X W (.If c a b pos) (mIfS t ma mb) := by
  refine ps_imp (ps_if hc ha hb) fun D σ H ⟨g, s, ok, h⟩ => ?_
  refine ⟨g, s, ok, (PostS.bind h).mono fun c g1 s1 H1 t1 k1 o1 h1 => ?_⟩
  cases c with
  | true => rw [if_pos rfl] at h1; show (if true = true then _ else _); rw [if_pos rfl]; exact ⟨g1, s1, o1, h1⟩
  | false => rw [if_neg (by decide)] at h1; show (if false = true then _ else _); rw [if_neg (by decide)]; exact ⟨g1, s1, o1, h1⟩
theorem ms_set {i : Nat} {x : Str} {pos' : Pos} (he : ME X W e me) (hN : X.N.Nodup) (hi : X.N[i]? = some x := by rfl) (hx : L2.Loc X.env.scope x := by first | exact Or.inl rfl | exact Or.inr rfl)
    (hs : swapsWith e (some (.Name x pos')) pos.line X.env = pure false := by rfl) (hf : X.fn x = true ∨ X.env.scope.names.lookup x = some .local := by first | exact .inl rfl | exact .inr rfl) :
    MS X W (.Assign [.Name x pos'] e pos) (mSet i me) := by
  refine ps_imp (ps_set hN hi hx he hs hf) fun D σ H ⟨g, s, ok, h⟩ => ?_
  refine ⟨g, s, ok, (PostS.bind h).mono fun r g1 s1 H1 t1 k1 o1 h1 v rv => ?_⟩
  show D.nx (σ.set i (some v)) H1
  split at h1
  · rename_i s2 e2
    obtain ⟨g2, t2, o2⟩ := assign_ok o1 rv e2
    exact h1 _ g2 H1 t2 o2
  · exact h1.elim
end
end MI
/-! # Several values at once, stored to names -/
namespace MI
open PySem L2

inductive RepRVs (K : PySem.W.Frag) (g : G) (s : S) (H : Hp) : List V → List RV → List Addr → Prop
  | nil : RepRVs K g s H [] [] []
  | d {v : V} {x : D} {vs : List V} {rs : List RV} {L : List Addr} : Rep K g v x → RepRVs K g s H vs rs L → RepRVs K g s H (v :: vs) (.d x :: rs) L
  | new {a : Addr} {o : MObj} {vs : List V} {rs : List RV} {L : List Addr} : g.F a = none → ¬ g.P a → ¬ Live g s a → ObjRep K g H a o → a ∉ L → RepRVs K g s H vs rs L → RepRVs K g s H (.ref a :: vs) (.new o :: rs) (a :: L)
abbrev kR (K : PySem.W.Frag) (Q : List V → Hp → Prop) : List RV → G → S → Hp → Prop := fun r g s H => ∀ v L, RepRVs K g s H v r L → Q v H
def tMR (K : PySem.W.Frag) (W : WX) (m : S → Res (List RV)) : TA := fun σ H Q => ∃ g s, Ok K g s σ H ∧ PostE K W σ g s H (kR K Q) (m s)
def MR (X : Cx) (W : WX) (es : List Expr) (m : S → Res (List RV)) : Prop := PA X es (tMR X.K W m)
def mHold (a : M) : M := fun s => (a s).bind fun r s1 => match r with
  | .at i => match leak (.at i) s1 with
    | some (d, s2) => .ok (.d d) s2
    | none => .stuck
  | r => .ok r s1
def mRNil : S → Res (List RV) := fun s => .ok [] s
def mRCons (a : M) (r : S → Res (List RV)) : S → Res (List RV) := fun s => (mHold a s).bind fun x s1 => (r s1).bind fun xs s2 => .ok (x :: xs) s2
def G.hold (g : G) (a : Addr) : G := { g with P := fun b => g.P b ∨ b = a }
def G.wP (g : G) (P : Addr → Prop) : G := { g with P := P }
section
variable {K : PySem.W.Frag} {W : WX} {σ : St} {g : G} {s : S} {H : Hp}
theorem wP_le {P : Addr → Prop} : GLe g (g.wP P) := ⟨Sub.refl _, Nat.le_refl _, fun _ _ => rfl⟩
theorem wP_ge {P : Addr → Prop} : GLe (g.wP P) g := ⟨Sub.refl _, Nat.le_refl _, fun _ _ => rfl⟩
theorem Ok.wP {P : Addr → Prop} (ok : Ok K g s σ H) (h : ∀ a, P a → (∃ u, H a = some u) ∧ g.F a = none ∧ ¬ Live g s a) : Ok K (g.wP P) s σ H :=
  ⟨ok.sub, fun l o e => ⟨(ok.cell l o e).1, (ok.cell l o e).2.mono wP_le rfl⟩, ok.inj, fun i x e => (ok.env i x e).mono wP_le (SlKeep.refl _), ok.len, ok.ng, h⟩
theorem Ok.hold {a : Addr} {u : HO} (ok : Ok K g s σ H) (h : H a = some u) (n : g.F a = none) (nl : ¬ Live g s a) : Ok K (g.hold a) s σ H :=
  ok.wP (P := fun b => g.P b ∨ b = a) fun b p => by
    rcases p with p | rfl
    · exact ok.prot b p
    · exact ⟨⟨u, h⟩, n, nl⟩
theorem Ok.unhold {a : Addr} {g0 : G} (ok : Ok K g s σ H) (e : g.P = (g0.hold a).P) : Ok K (g.wP g0.P) s σ H :=
  ok.wP fun b p => ok.prot b (by rw [e]; exact .inl p)
theorem Step.unhold {a : Addr} {g' : G} {H' : Hp} (t : Step (g.hold a) H g' H') : Step g H (g'.wP g.P) H' :=
  ⟨⟨t.le.F, t.le.ng, t.le.adr⟩, rfl, fun b p => t.keep b (.inl p)⟩
theorem ObjRep.wP {P : Addr → Prop} {a : Addr} {o : MObj} (q : ObjRep K g H a o) : ObjRep K (g.wP P) H a o := q.mono wP_le rfl
theorem RepRVs.unhold {a : Addr} {vs : List V} {rs : List RV} {L : List Addr} {g0 : G} (e : g.P = (g0.hold a).P) (r : RepRVs K g s H vs rs L) : RepRVs K (g.wP g0.P) s H vs rs L ∧ a ∉ L := by
  induction r with
  | nil => exact ⟨.nil, by simp⟩
  | d x _ ih => exact ⟨.d (Rep.mono wP_le x) ih.1, ih.2⟩
  | @new b _ _ _ _ n np nl q m _ ih =>
    refine ⟨.new n (fun p => np (by rw [e]; exact .inl p)) nl q.wP m ih.1, fun z => ?_⟩
    rcases List.mem_cons.mp z with z | z
    · exact np (by rw [e]; exact .inr z.symm)
    · exact ih.2 z
theorem PostE.hold {α : Type} {k : α → G → S → Hp → Prop} {a : Addr} {r : Res α} (h : PostE K W σ g s H k r) :
    PostE K W σ (g.hold a) s H (fun b g' s' H' => k b (g'.wP g.P) s' H' ∧ H' a = H a ∧ g'.F a = none ∧ ¬ Live g' s' a ∧ g'.P = (g.hold a).P ∧ Step g H (g'.wP g.P) H' ∧ SlKeep g (g'.wP g.P)) r := by
  cases r with
  | ok b s' =>
    intro g' H' t sk o
    have pa : g'.P a := by rw [t.P]; exact .inr rfl
    obtain ⟨_, f, l⟩ := o.prot a pa
    exact ⟨h _ H' t.unhold sk (o.unhold t.P), t.keep a (.inr rfl), f, l, t.P, t.unhold, sk⟩
  | exc c p s' =>
    intro cls d g' H' t sk o rv
    exact h cls d _ H' t.unhold sk (o.unhold t.P) (rv.mono wP_le)
  | stuck => exact h
end
section
variable {X : Cx} {W : WX} {e : Expr} {es : List Expr} {me : M} {m : S → Res (List RV)} {pos : Pos}
theorem mr_nil : MR X W [] mRNil := pa_imp pa_nil fun σ H Q ⟨g, s, ok, h⟩ => PostE.done h ok _ _ .nil
theorem mr_cons (ha : ME X W e me) (hr : MR X W es m) (hs : starEach (e :: es) X.env = (false, eval e X.env) :: starEach es X.env := by rfl) : MR X W (e :: es) (mRCons me m) := by
  refine pa_imp (pa_cons ha hr hs) fun σ H Q ⟨g, s, ok, h⟩ => ?_
  refine ⟨g, s, ok, (PostE.bind (PostE.bind h)).mono fun r g1 s1 H1 t1 k1 o1 h1 v rv => ?_⟩
  have dcase : ∀ {x : D} {g2 : G} {s2 : S}, Step g1 H1 g2 H1 → SlKeep g1 g2 → Ok X.K g2 s2 σ H1 → Rep X.K g2 v x →
      PostE X.K W σ g2 s2 H1 (kR X.K Q) ((m s2).bind fun xs s3 => .ok (.d x :: xs) s3) → tMR X.K W m σ H1 (fun xs H2 => Q (v :: xs) H2) := by
    intro x g2 s2 t2 k2 o2 rx h2
    refine ⟨g2, s2, o2, (PostE.bind h2).mono fun xs g3 s3 H3 t3 k3 o3 h3 vs L rs => ?_⟩
    exact PostE.done h3 o3 _ _ (.d (rx.mono t3.le) rs)
  cases r with
  | d x => exact dcase (Step.refl _ _) (SlKeep.refl _) o1 rv (PostE.done h1 o1)
  | «at» i =>
    cases e1 : leak (.at i) s1 with
    | none => simp only [e1] at h1; exact h1.elim
    | some p =>
      obtain ⟨x, s2⟩ := p
      simp only [e1] at h1
      obtain ⟨g2, t2, k2, o2, r2⟩ := leak_ok o1 rv e1
      exact dcase t2 k2 o2 r2 (h1 g2 H1 t2 k2 o2)
  | new o =>
    obtain ⟨a, rfl, n, np, nl, q⟩ := rv
    obtain ⟨u, hu⟩ := q.some
    have h2 := PostE.done h1 o1
    refine ⟨g1.hold a, s1, o1.hold hu n nl, ((PostE.bind h2).hold (a := a)).mono fun xs g3 s3 H3 t3 k3 o3 ⟨h3, e3, f3, l3, p3, st3, sk3⟩ vs L rs => ?_⟩
    obtain ⟨rs', nm⟩ := rs.unhold p3
    have q3 : ObjRep X.K (g3.wP g1.P) H3 a o := q.mono st3.le e3
    exact PostE.done h3 (o3.unhold p3) _ _ (.new f3 np l3 q3 nm rs')
end
/-! ### stores -/
def assignAll : List Nat → List RV → S → Option S
  | [], [], s => some s
  | i :: is, r :: rs, s => match assign i r s with
    | some s1 => assignAll is rs s1
    | none => none
  | _, _, _ => none
def setAll (σ : St) : List Nat → List V → St
  | i :: is, v :: vs => setAll (σ.set i (some v)) is vs
  | _, _ => σ
section
variable {K : PySem.W.Frag} {W : WX}
theorem assignAll_ok : ∀ {is : List Nat} {vs : List V} {rs : List RV} {L : List Addr} {σ : St} {g : G} {s s' : S} {H : Hp}, Ok K g s σ H → RepRVs K g s H vs rs L → assignAll is rs s = some s' →
    ∃ g', Step g H g' H ∧ Ok K g' s' (setAll σ is vs) H := by
  intro is
  induction is with
  | nil =>
    intro vs rs L σ g s s' H ok r e
    cases r with
    | nil => cases e; exact ⟨g, Step.refl _ _, ok⟩
    | d _ _ => cases e
    | new _ _ _ _ _ _ => cases e
  | cons i is ih =>
    intro vs rs L σ g s s' H ok r e
    cases r with
    | nil => cases e
    | @d v x vs rs L rx r =>
      simp only [assignAll] at e
      split at e
      · rename_i s1 e1
        simp only [assign] at e1
        split at e1
        · rename_i hi
          cases e1
          have o1 := ok.setVal rx hi
          have r1 : RepRVs K g { s with env := s.env.set i (.val x) } H vs rs L := by
            clear ih e
            induction r with
            | nil => exact .nil
            | d x _ ih => exact .d x ih
            | new n np nl q m _ ih =>
              refine .new n np (fun ⟨l, w, z, za⟩ => nl ?_) q m ih
              rcases cellOf_set hi z with ⟨_, z⟩ | ⟨_, z⟩
              · cases z
              · exact ⟨l, w, z, za⟩
          exact ih o1 r1 e
        · cases e1
      · cases e
    | @new a o vs rs L n np nl q m r =>
      simp only [assignAll] at e
      split at e
      · rename_i s1 e1
        simp only [assign] at e1
        split at e1
        · rename_i hi
          cases e1
          have o1 := ok.setOwn hi n np nl q
          have r1 : RepRVs K (g.put i a) { s with env := s.env.set i (.own o) } H vs rs L := by
            clear ih e
            induction r with
            | nil => exact .nil
            | d x _ ih => exact .d (Rep.mono put_le x) (ih (by simpa using m))
            | @new b w _ _ _ n2 np2 nl2 q2 m2 _ ih2 =>
              have ne : b ≠ a := fun z => m (by rw [z]; exact List.mem_cons_self)
              refine .new n2 np2 (fun ⟨l, w, z, za⟩ => ?_) (q2.mono put_le rfl) m2 (ih2 fun z => m (List.mem_cons_of_mem _ z))
              rcases cellOf_set hi z with ⟨rfl, _⟩ | ⟨hl, z⟩
              · rw [put_same] at za; exact ne za.symm
              · rw [put_ne hl] at za; exact nl2 ⟨l, w, z, za⟩
          obtain ⟨g2, t2, o2⟩ := ih o1 r1 e
          exact ⟨g2, (put_step (i := i) (a := a)).trans t2, o2⟩
        · cases e1
      · cases e
end
def mParN (is : List Nat) (m : S → Res (List RV)) : S → Res Out := fun s => (m s).bind fun rs s1 => match assignAll is rs s1 with
  | some s2 => .ok .nx s2
  | none => .stuck
theorem RepRVs.len {K : PySem.W.Frag} {g : G} {s : S} {H : Hp} {vs : List V} {rs : List RV} {L : List Addr} (r : RepRVs K g s H vs rs L) : vs.length = rs.length := by
  induction r with
  | nil => rfl
  | d _ _ ih => simp [ih]
  | new _ _ _ _ _ _ ih => simp [ih]
theorem assignAll_len : ∀ {is : List Nat} {rs : List RV} {s s' : S}, assignAll is rs s = some s' → is.length = rs.length
  | [], [], _, _, _ => rfl
  | [], _ :: _, _, _, e => by cases e
  | _ :: _, [], _, _, e => by cases e
  | i :: is, r :: rs, s, s', e => by
    simp only [assignAll] at e
    split at e
    · rw [List.length_cons, List.length_cons, assignAll_len e]
    · cases e
section
variable {X : Cx} {W : WX} {a b c : Expr} {m : S → Res (List RV)}
theorem ms_par {i j : Nat} {x y : Str} {px py pt pos : Pos} {kt k2 pt2} (hc : X.calm = true) (hN : X.N.Nodup) (ha : MR X W [a, b] m) (hi : X.N[i]? = some x := by rfl) (hj : X.N[j]? = some y := by rfl) (hij : i ≠ j := by decide)
    (hx : X.env.scope.names.lookup x = some .local := by rfl) (hy : X.env.scope.names.lookup y = some .local := by rfl)
    (hw : swappedStores [.Tuple [.Name x px, .Name y py] kt pt] (.Tuple [a, b] k2 pt2) X.env = pure (some [x, y]) := by rfl)
    (hs : swapsWithSole [.Tuple [.Name x px, .Name y py] kt pt] (.Tuple [a, b] k2 pt2) pos.line X.env = pure false := by rfl) :
    MS X W (.Assign [.Tuple [.Name x px, .Name y py] kt pt] (.Tuple [a, b] k2 pt2) pos) (mParN [i, j] m) := by
  refine ps_imp (ps_par hc hN hi hj hij hx hy ha hw hs) fun D σ H ⟨g, s, ok, h⟩ => ?_
  refine ⟨g, s, ok, (PostS.bind h).mono fun rs g1 s1 H1 t1 k1 o1 h1 vs L rv => ?_⟩
  split at h1
  · rename_i s2 e
    obtain ⟨g2, t2, o2⟩ := assignAll_ok o1 rv e
    have hl := (assignAll_len e).trans rv.len.symm
    obtain ⟨v, w, rfl⟩ : ∃ v w, vs = [v, w] := by
      match vs, hl with
      | [v, w], _ => exact ⟨v, w, rfl⟩
    exact ⟨v, w, rfl, h1 _ g2 H1 t2 o2⟩
  · exact h1.elim
theorem ms_par3 {i j l : Nat} {x y z : Str} {px py pz pt pos : Pos} {kt k2 pt2} (hc : X.calm = true) (hN : X.N.Nodup) (ha : MR X W [a, b, c] m) (hi : X.N[i]? = some x := by rfl) (hj : X.N[j]? = some y := by rfl) (hl : X.N[l]? = some z := by rfl)
    (hij : i ≠ j := by decide) (hil : i ≠ l := by decide) (hjl : j ≠ l := by decide)
    (hx : X.env.scope.names.lookup x = some .local := by rfl) (hy : X.env.scope.names.lookup y = some .local := by rfl) (hz : X.env.scope.names.lookup z = some .local := by rfl)
    (hw : swappedStores [.Tuple [.Name x px, .Name y py, .Name z pz] kt pt] (.Tuple [a, b, c] k2 pt2) X.env = pure (some [x, y, z]) := by rfl)
    (hs : swapsWithSole [.Tuple [.Name x px, .Name y py, .Name z pz] kt pt] (.Tuple [a, b, c] k2 pt2) pos.line X.env = pure false := by rfl) :
    MS X W (.Assign [.Tuple [.Name x px, .Name y py, .Name z pz] kt pt] (.Tuple [a, b, c] k2 pt2) pos) (mParN [i, j, l] m) := by
  refine ps_imp (ps_par3 hc hN hi hj hl hij hil hjl hx hy hz ha hw hs) fun D σ H ⟨g, s, ok, h⟩ => ?_
  refine ⟨g, s, ok, (PostS.bind h).mono fun rs g1 s1 H1 t1 k1 o1 h1 vs L rv => ?_⟩
  split at h1
  · rename_i s2 e
    obtain ⟨g2, t2, o2⟩ := assignAll_ok o1 rv e
    have hl := (assignAll_len e).trans rv.len.symm
    obtain ⟨v, w, u, rfl⟩ : ∃ v w u, vs = [v, w, u] := by
      match vs, hl with
      | [v, w, u], _ => exact ⟨v, w, u, rfl⟩
    exact ⟨v, w, u, rfl, h1 _ g2 H1 t2 o2⟩
  · exact h1.elim
end

/-! ### a tuple's parts to names -/
/-- targets that are plain names, by their slots -/
def gNames : List Nat → TGs
  | [] => gNil
  | i :: is => gCons (gName i) (gNames is)
theorem gNames_set : ∀ {is : List Nat} {vs : List V} {σ : St} {H : Hp} {Q : St → Hp → Prop}, is.length = vs.length → Q (setAll σ is vs) H → gNames is vs σ H Q
  | [], [], _, _, _, _, q => ⟨rfl, q⟩
  | i :: is, v :: vs, σ, H, Q, hl, q => ⟨v, vs, rfl, gNames_set (is := is) (vs := vs) (σ := σ.set i (some v)) (by simpa using hl) q⟩
def mUnp (is : List Nat) (m : M) : S → Res Out := fun s => (mLeak m s).bind fun d s1 => match d with
  | .tup ds => match assignAll is (ds.map .d) s1 with
    | some s2 => .ok .nx s2
    | none => .stuck
  | _ => .stuck
theorem repRVs_d {K : PySem.W.Frag} {g : G} {s : S} {H : Hp} : ∀ {vs : List V} {ds : List D}, RepL K g vs ds → RepRVs K g s H vs (ds.map .d) []
  | _, _, .nil => .nil
  | _, _, .cons a b => .d a (repRVs_d b)
section
variable {X : Cx} {W : WX} {e : Expr} {me : M} {ts es : List Expr} {is : List Nat} {m : S → Res (List RV)}
theorem ms_unp {kt : Nat} {pt pos : Pos} (hc : X.calm = true) (he : ME X W e me) (ht : PGs X ts (gNames is))
    (hn : (assignEach ts X.env).length = is.length := by rfl) (hst : (assignEach ts X.env).findIdx? (·.1) = none := by rfl)
    (hs : swapsWithSole [.Tuple ts kt pt] e pos.line X.env = pure false := by rfl) (hw : swappedStores [.Tuple ts kt pt] e X.env = pure none := by rfl)
    (h1 : (assignEach [.Tuple ts kt pt] X.env).map (·.2) = [PySem.assign (.Tuple ts kt pt) X.env] := by rfl) :
    MS X W (.Assign [.Tuple ts kt pt] e pos) (mUnp is me) := by
  refine ps_imp (ps_asg he (pg_tup hc ht hn hst) hs hw h1) fun D σ H ⟨g, s, ok, h⟩ => ?_
  refine tM_leak ok (PostS.bind h) fun d g1 s1 H1 v t1 k1 o1 rv h1 => ?_
  split at h1
  · rename_i ds
    split at h1
    · rename_i s2 e
      cases rv with
      | tup hq rl =>
        obtain ⟨g2, t2, o2⟩ := assignAll_ok o1 (repRVs_d rl) e
        have hl := (assignAll_len e).trans ((List.length_map _).trans rl.length.symm)
        exact ⟨_, _, rfl, sqT_mono o1.sub hq, hl.symm, gNames_set hl (h1 _ g2 H1 t2 o2)⟩
    · exact h1.elim
  · exact h1.elim
/-- (x, y, ..) = (a, b, ..) where the tuple is made: the parts may be new objects -/
theorem ms_tupN {kt kt2 : Nat} {pt pt2 pos : Pos} (hc : X.calm = true) (he : MR X W es m) (ht : PGs X ts (gNames is)) (hl20 : is.length ≤ 100)
    (hn : (assignEach ts X.env).length = is.length := by rfl) (hst : (assignEach ts X.env).findIdx? (·.1) = none := by rfl)
    (hs : swapsWithSole [.Tuple ts kt pt] (.Tuple es kt2 pt2) pos.line X.env = pure false := by rfl) (hw : swappedStores [.Tuple ts kt pt] (.Tuple es kt2 pt2) X.env = pure none := by rfl)
    (h1 : (assignEach [.Tuple ts kt pt] X.env).map (·.2) = [PySem.assign (.Tuple ts kt pt) X.env] := by rfl) :
    MS X W (.Assign [.Tuple ts kt pt] (.Tuple es kt2 pt2) pos) (mParN is m) := by
  refine ps_imp (ps_asg (pe_tup he) (pg_tup hc ht hn hst) hs hw h1) fun D σ H ⟨g, s, ok, h⟩ => ?_
  refine ⟨g, s, ok, (PostS.bind h).mono fun rs g1 s1 H1 t1 k1 o1 h1 vs L rv => ?_⟩
  split at h1
  · rename_i s2 e
    obtain ⟨g2, t2, o2⟩ := assignAll_ok o1 rv e
    have hl := (assignAll_len e).trans rv.len.symm
    have z : 100 ≤ sizeLine := by decide
    refine ⟨by omega, fun p hp => ⟨p, vs, rfl, .of upd_same, hl.symm, gNames_set hl ?_⟩⟩
    exact h1 _ g2 _ (t2.trans (Step.grow o2 hp)) (o2.grow hp)
  · exact h1.elim
theorem mgs_nil : PGs X [] (gNames []) := pgs_nil
theorem mgs_cons {i : Nat} {x : Str} {pos : Pos} (h2 : PGs X es (gNames is)) (hN : X.N.Nodup) (hi : X.N[i]? = some x := by rfl) (hx : L2.Loc X.env.scope x := by first | exact Or.inl rfl | exact Or.inr rfl)
    (hs : (assignEach (.Name x pos :: es) X.env).map (·.2) = PySem.assign (.Name x pos) X.env :: (assignEach es X.env).map (·.2) := by rfl) (hf : X.fn x = true ∨ X.env.scope.names.lookup x = some .local := by first | exact .inl rfl | exact .inr rfl) :
    PGs X (.Name x pos :: es) (gNames (i :: is)) := pgs_cons (pg_name hN hi hx hf) h2 hs
end
end MI
/-! # Subscripts, slices -/
namespace HT
open PySem PyProof.Rows
section
variable {prog : Program} {w : World} {A : Around} {E : Value → Shared → Prop} {s : Shared}
theorem rev_bounds (n : Nat) : Builtin.Slice.sliceAdjust none none (-1) (n : Int) = ((n : Int) - 1, -1) := by
  unfold Builtin.Slice.sliceAdjust
  simp
theorem rev_places (n : Nat) : Builtin.Slice.slicePlaces ((n : Int) - 1) (-1) (-1) = n := by
  unfold Builtin.Slice.slicePlaces
  simp
  omega
theorem sliceApplied_rev {sl : Addr} {vk : Value} {n : Nat} {Q : Int × Int × Nat → Shared → Prop} (hs : s.heap.IsSliceOf sl .none .none vk) (pk : IsPart vk (some (-1)))
    (h : Q ((n : Int) - 1, -1, n) s) : wpAny (model prog w) A (Builtin.Slice.sliceApplied (.ref sl) (pure (n : Int))) Q E s := by
  obtain ⟨os, hos, hcs, hds⟩ := id hs
  unfold Builtin.Slice.sliceApplied Builtin.Slice.sliceFields
  refine wpAny_bind (wpAny_bind (wpAny_field hos hds (x := .none) rfl (wpAny_bind (wpAny_field hos hds (x := .none) rfl (wpAny_bind (wpAny_field hos hds (x := vk) rfl (wpAny_pure ?_)))))))
  refine wpAny_bind (slicePart_ pk ?_)
  show wpAny _ _ (if ((-1 : Int) == 0) = true then _ else _) _ _ s
  rw [if_neg (by decide)]
  refine wpAny_bind (slicePart_none (wpAny_bind (slicePart_none (wpAny_bind (wpAny_pure ?_)))))
  show wpAny _ _ (match Builtin.Slice.sliceAdjust none none (-1) (n : Int) with | (lo, hi) => pure (lo, (-1 : Int), Builtin.Slice.slicePlaces lo hi (-1))) _ _ s
  rw [rev_bounds]
  show wpAny _ _ (pure ((n : Int) - 1, (-1 : Int), Builtin.Slice.slicePlaces ((n : Int) - 1) (-1) (-1))) _ _ s
  rw [rev_places]
  exact wpAny_pure h
theorem filterMap_cg {α β : Type} {f g : α → Option β} : ∀ {l : List α}, (∀ x ∈ l, f x = g x) → l.filterMap f = l.filterMap g
  | [], _ => rfl
  | x :: l, h => by
    rw [List.filterMap_cons, List.filterMap_cons, h x List.mem_cons_self, filterMap_cg fun y hy => h y (List.mem_cons_of_mem _ hy)]
theorem pick_rev (xs : Array Value) : ((List.range xs.size).filterMap fun (m : Nat) => xs[((xs.size : Int) - 1 + (m : Int) * (-1)).toNat]?).toArray = xs.toList.reverse.toArray := by
  congr 1
  have e : ∀ m ∈ List.range xs.size, xs[((xs.size : Int) - 1 + (m : Int) * (-1)).toNat]? = xs[xs.size - 1 - m]? := by
    intro m hm
    have := List.mem_range.mp hm
    have e : ((xs.size : Int) - 1 + (m : Int) * (-1)).toNat = xs.size - 1 - m := by omega
    rw [e]
  rw [filterMap_cg e]
  have h2 : (List.range xs.size).filterMap (fun m => xs[xs.size - 1 - m]?) = ((List.range xs.size).map fun k => xs.size - 1 - k).filterMap (xs[·]?) := by
    rw [List.filterMap_map]; rfl
  rw [h2, PySem.W.krv_range, List.filterMap_reverse, PySem.W.krv_all]
theorem getItem_tuple_rev {t sl : Addr} {items : Array Value} {vk : Value} {Q : Value → Shared → Prop} (ht : IsTup s.heap t items) (hs : s.heap.IsSliceOf sl .none .none vk) (pk : IsPart vk (some (-1)))
    (h : Q (.ref s.heap.objs.size) { s with heap := s.heap.push { cls := .type "tuple", data := .seq items.toList.reverse.toArray } })
    (hsz : items.size ≤ sizeLine) : wpAny (model prog w) A (getItem (.ref t) (.ref sl)) Q E s := by
  have htake : sizeOk (.seq items.toList.reverse.toArray) := by
    show items.toList.reverse.toArray.size ≤ sizeLine
    rw [List.size_toArray, List.length_reverse, Array.length_toList]
    exact hsz
  obtain ⟨os, hos, hcs, hds⟩ := id hs
  have hTs : s.TypeIs (.ref sl) "slice" := ⟨os, hos, hcs⟩
  unfold getItem
  try with_reducible refine wpAny_holding ?_
  first | refine wpAny_bind (wpAny_pure ?_) | skip
  refine wpAny_bind (wpAny_sequenceKey ht.typeIs (by decide) ?_)
  refine wpAny_bind (wpAny_callSpecial?_slot (name := Str.ofString "__getitem__") ht.typeIs PyProof.Rows.slot_tuple_getitem
    (wpAny_call_entry PyProof.Rows.slot_tuple_getitem ht.typeIs entry_tuple_getitem ?_ (args_tuple_getitem _ _)))
  show wpAny _ _ (Builtin.Tuple.tupleItemsOf (.ref t) >>= _) _ _ s
  refine wpAny_bind (tupleItemsOf_ ht ?_)
  refine wpAny_bind (wpAny_typeOf hTs ?_)
  rw [if_pos (by decide)]
  refine wpAny_bind (sliceApplied_rev hs pk ?_)
  have hno : ¬ ((((items.size : Int) - 1) == 0 && (-1 : Int) == 1 && items.size == items.size) = true) := by
    intro q
    rw [Bool.and_eq_true, Bool.and_eq_true] at q
    exact absurd q.1.2 (by decide)
  show wpAny _ _ (if (((items.size : Int) - 1) == 0 && (-1 : Int) == 1 && items.size == items.size) = true then _ else _) _ _ s
  rw [if_neg hno, pick_rev]
  first
    | exact wpAny_bind (m := Builtin.Tuple.tupleExact _) (wpAny_newObj_type (wpAny_pure ⟨_, rfl, wpAny_pure h⟩) htake)
    | exact wpAny_bind (m := Builtin.Tuple.tupleExact _) (wpAny_newObj_type (wpAny_bind (wpAny_pure (wpAny_pure ⟨_, rfl, wpAny_pure h⟩))) htake)
    | exact wpAny_bind (wpAny_bind (m := Builtin.Tuple.tupleExact _) (wpAny_newObj_type (wpAny_pure (wpAny_pure ⟨_, rfl, wpAny_pure h⟩)) htake))
    | exact wpAny_bind (wpAny_bind (m := Builtin.Tuple.tupleExact _) (wpAny_newObj_type (wpAny_pure ⟨_, rfl, wpAny_pure h⟩) htake))
end
end HT
namespace L2
open PySem PySem.Spec PyProof.Rows
section
variable {X : Cx} {e k : Expr} {te tk : TE} {pos p2 : Pos}
/-- xs[::k], k minus one: a list or a tuple backward -/
def tRev (K : PySem.W.Frag) (te tk : TE) : TE := fun σ H Q => te σ H fun x H1 => tk σ H1 fun y H2 => y = .int (-1) ∧
  ((∃ a xs, x = .ref a ∧ SqL K H2 a xs ∧ ∀ p, H2 p = none → Q (.ref p) (upd H2 p (.lst xs.reverse))) ∨
   (∃ a xs, x = .ref a ∧ SqT K H2 a xs ∧ ∀ p, H2 p = none → Q (.ref p) (upd H2 p (.tup xs.reverse))))
theorem pe_rev (he : PE X e te) (hk : PE X k tk) : PE X (.Subscript e (.Slice none none (some k) p2) pos) (tRev X.K te tk) := by
  refine ⟨fun pins s σ H Q I h => ?_⟩
  refine Subscript_ (thn (he.run pins s σ H _ I h) fun v s1 ⟨x, H1, I1, r1, q1⟩ => ?_)
  refine wpAny_Slice ?_
  rw [evalPart_none, evalPart_some]
  refine wpAny_pure (wpAny_pure ?_)
  refine thn (hk.run pins s1 σ H1 _ I1 q1) fun vk s2 ⟨y, H2, I2, rk, hy, hq⟩ => ?_
  subst hy
  obtain ⟨tk, rfl⟩ := rk
  have I4 : Inv X pins σ H2 { s2 with heap := s2.heap.push { cls := .type "slice", data := .fields #[.none, .none, .int (-1) tk] } } := I2.kept (t' := s2.toks) fun b ob q => Heap.get?_push_of_some _ q
  show wpAny (model X.prog X.w) X.A (subscriptTail e (.Slice none none (some k) p2) v (.ref s2.heap.objs.size)) (EP X pins σ Q) X.xe { s2 with heap := s2.heap.push { cls := .type "slice", data := .fields #[.none, .none, .int (-1) tk] } }
  have hs := Heap.IsSliceOf.new s2.heap .none .none (.int (-1) tk)
  rcases hq with ⟨a, xs, rfl, hx, q⟩ | ⟨a, xs, rfl, hx, q⟩
  · cases r1
    obtain ⟨its, r, ht, hz⟩ := I4.list hx
    have hlen := r.length
    refine tail_any (ops := [.ref a, .ref s2.heap.objs.size]) ht.isList.typeIs slot_list_getitem.lookup ?_ (by with_unfolding_all rfl)
    refine wpAny_getItem_list_slice ht.isList hs .none .none (.int _ _) (by simp) ?_ (by rw [List.size_toArray] <;> omega)
    rw [PySem.W.krv_pick]
    refine ⟨.ref _, _, I4.laid (t' := s2.toks) (o := .lst xs.reverse) (fun b ob q => Heap.get?_push_of_some _ q) (Nat.le_refl _) ?_, rfl, q _ (I4.hok.fresh (Nat.le_refl _))⟩
    exact ⟨by rw [List.length_reverse]; exact hz, _, 0, r.reverse, Heap.get?_push_size _ rfl⟩
  · cases r1
    obtain ⟨its, r, ht, hz⟩ := I4.tuple hx
    have hlen := r.length
    refine tail_any (ops := [.ref a, .ref s2.heap.objs.size]) ht.typeIs PyProof.Rows.slot_tuple_getitem.lookup ?_ (by with_unfolding_all rfl)
    refine HT.getItem_tuple_rev ht hs (.int _ _) ?_ (by rw [List.size_toArray]; omega)
    refine ⟨.ref _, _, I4.laid (t' := s2.toks) (o := .tup xs.reverse) (fun b ob q => Heap.get?_push_of_some _ q) (Nat.le_refl _) ?_, rfl, q _ (I4.hok.fresh (Nat.le_refl _))⟩
    refine ⟨by rw [List.length_reverse]; exact hz, its.reverse, r.reverse, ?_⟩
    exact IsTup.new _ _
end
end L2

namespace MI
open PySem L2
/-! ### a[i] -/
def opIx : S → RV → RV → Res RV := fun s a b => match asInt b with
  | none => .stuck
  | some i => match asTup a with
    | some xs => (match atI xs i with
      | some d => .ok (.d d) s
      | none => .stuck)
    | none => match asLst s a with
      | some xs => (match atI xs i with
        | some d => .ok (.d d) s
        | none => .stuck)
      | none => match asStr a with
        | some z => if z.length ≤ sizeLine then (match atI z.cps.toList i with
          | some c => .ok (.d (.str ⟨#[c]⟩)) s
          | none => .stuck) else .stuck
        | none => .stuck
theorem atI_rep {K : PySem.W.Frag} {g : G} {vs : List V} {ds : List D} {i : Int} {d : D} (r : RepL K g vs ds) (e : atI ds i = some d) : ∃ v, atI vs i = some v ∧ Rep K g v d := by
  unfold atI at e ⊢
  rw [r.length]
  cases h : ixN ds.length i with
  | none => rw [h] at e; cases e
  | some j =>
    rw [h] at e
    exact r.get e
section
variable {X : Cx} {W : WX} {a b e : Expr} {ma mb me : M} {pos p2 : Pos}
theorem os_ix : OpS X W (rIx X.K) opIx := by
  intro σ g s H Q x y ra rb ok rx ry nn q
  unfold opIx at q
  split at q
  · exact q.elim
  · rename_i i e1
    have ey := asInt_ok ry e1
    split at q
    · rename_i xs e2
      split at q
      · rename_i d e3
        obtain ⟨p, vs, rfl, h, r⟩ := asTup_ok ok rx e2
        obtain ⟨v, hv, rv⟩ := atI_rep r e3
        exact .inr (.inl ⟨p, vs, i, v, rfl, ey, h, hv, kE_d q ok (Rep.mono (GLe.refl _) rv)⟩)
      · exact q.elim
    · split at q
      · rename_i xs e2
        split at q
        · rename_i d e3
          obtain ⟨p, vs, rfl, h, r⟩ := asLst_ok ok rx e2
          obtain ⟨v, hv, rv⟩ := atI_rep r e3
          exact .inl ⟨p, vs, i, v, rfl, ey, .of h, hv, kE_d q ok rv⟩
        · exact q.elim
      · split at q
        · rename_i z e2
          split at q
          · rename_i hz
            split at q
            · rename_i c e3
              exact .inr (.inr ⟨z, i, c, asStr_ok rx e2, ey, hz, e3, kE_d q ok (.str _)⟩)
            · exact q.elim
          · exact q.elim
        · exact q.elim
theorem me_ix (ha : ME X W a ma) (hb : ME X W b mb) (hs : PlainIx b := by exact fun _ _ => rfl) : ME X W (.Subscript a b pos) (mBin opIx ma mb) :=
  pe_imp (pe_ix ix_seq ha hb hs) fun _ _ _ ⟨_, _, ok, h⟩ => tOp_of os_ix ok h
/-! ### a[i:j] -/
def MO (X : Cx) (W : WX) (e : Option Expr) (m : S → Res (Option Int)) : Prop :=
  PO X e (fun σ H Q => ∃ g s, Ok X.K g s σ H ∧ PostE X.K W σ g s H (fun r _ _ H => Q r H) (m s))
def mNoPart : S → Res (Option Int) := fun s => .ok none s
def mPart (m : M) : S → Res (Option Int) := fun s => (m s).bind fun r s1 => match asInt r with
  | some i => .ok (some i) s1
  | none => .stuck
theorem po_imp {e : Option Expr} {t t' : TO} (h : PO X e t) (i : ∀ σ H Q, t' σ H Q → t σ H Q) : PO X e t' :=
  ⟨fun pins s σ H Q I q => h.run pins s σ H Q I (i σ H Q q)⟩
theorem mo_none : MO X W none mNoPart := po_imp po_none fun σ H Q ⟨g, s, ok, h⟩ => PostE.done (W := W) h ok
theorem mo_some (h : ME X W e me) : MO X W (some e) (mPart me) := by
  refine po_imp (po_some h) fun σ H Q ⟨g, s, ok, h⟩ => ⟨g, s, ok, (PostE.bind h).mono fun r g1 s1 H1 t1 k1 o1 h1 v rv => ?_⟩
  split at h1
  · rename_i i e
    exact ⟨i, asInt_ok rv e, PostE.done (W := W) h1 o1⟩
  · exact h1.elim
def cut {α : Type} (xs : List α) (lo hi : Option Int) : List α := (xs.drop (HT.sIx xs.length 0 lo)).take (HT.sIx xs.length xs.length hi - HT.sIx xs.length 0 lo)
theorem cut_rep {K : PySem.W.Frag} {g : G} {vs : List V} {ds : List D} (r : RepL K g vs ds) (lo hi : Option Int) : RepL K g (cutV vs lo hi) (cut ds lo hi) := by
  unfold cutV cut
  rw [r.length]
  exact (r.drop _).take _
def asScr : RV → Option (List D)
  | .d (.scr xs) => some xs
  | _ => none
theorem asScr_ok {K : PySem.W.Frag} {σ : St} {g : G} {s : S} {H : Hp} {v : V} {r : RV} {xs : List D} (ok : Ok K g s σ H) (h : RepRV K g s H v r) (e : asScr r = some xs) : ∃ a vs, v = .ref a ∧ SqL K H a vs ∧ RepL K g vs xs := by
  cases r with
  | d x =>
    cases x with
    | scr ys =>
      cases e
      cases (show Rep K g v _ from h) with
      | scr h1 r => exact ⟨_, _, rfl, sqL_mono ok.sub h1, r⟩
    | _ => cases e
  | «at» i => cases e
  | new o => cases e
def opSl (lo hi : Option Int) : S → RV → Res RV := fun s a => match asTup a with
  | some xs => .ok (.d (.tup (cut xs lo hi))) s
  | none => match asLst s a with
    | some xs => .ok (.new (.lst (cut xs lo hi))) s
    | none => match asScr a with
     | some xs => .ok (.new (.lst (cut xs lo hi))) s
     | none => match asStr a with
      | some z => if z.length ≤ sizeLine then .ok (.d (.str (cutS z lo hi))) s else .stuck
      | none => .stuck
def mSlice (a : M) (lo hi : S → Res (Option Int)) : M := fun s => (mSettle a s).bind fun x s1 => (lo s1).bind fun l s2 => (hi s2).bind fun u s3 => opSl l u s3 x
def rSlM (K : PySem.W.Frag) : V → Option Int → Option Int → Hp → VK → Prop := fun x lo hi H Q => rSlA K x lo hi H Q ∨ rSlL K x lo hi H Q ∨ rSlS x lo hi H Q
theorem sl_M : SlR X (rSlM X.K) := sl_tupA.or (sl_list.or sl_str)
theorem cut_whole {α : Type} {xs : List α} {lo hi : Option Int} (h : HT.sIx xs.length 0 lo = 0 ∧ HT.sIx xs.length xs.length hi = xs.length) : cut xs lo hi = xs := by
  unfold cut
  rw [h.1, h.2]
  simp
theorem me_slice {lo hi : Option Expr} {ml mh : S → Res (Option Int)} (ha : ME X W a ma) (hl : MO X W lo ml) (hh : MO X W hi mh) : ME X W (.Subscript a (.Slice lo hi none p2) pos) (mSlice ma ml mh) := by
  refine pe_imp (pe_slice sl_M ha hl hh) fun σ H Q ⟨g, s, ok, h⟩ => ?_
  refine tM_settle ok (PostE.bind h) fun x g1 s1 H1 v t1 k1 o1 rv nn h1 => ?_
  refine ⟨g1, s1, o1, (PostE.bind h1).mono fun l g2 s2 H2 t2 k2 o2 h2 => ?_⟩
  refine ⟨g2, s2, o2, (PostE.bind h2).mono fun u g3 s3 H3 t3 k3 o3 h3 => ?_⟩
  have rv2 : RepRV X.K g2 s2 H2 v x := rv.held nn t2 k2
  have rv3 : RepRV X.K g3 s3 H3 v x := rv2.held nn t3 k3
  unfold opSl at h3
  split at h3
  · rename_i xs e
    obtain ⟨p, vs, rfl, hq, r⟩ := asTup_ok o3 rv3 e
    refine .inl ⟨p, vs, rfl, hq, fun z => ?_, fun z p hp => kE_tup h3 o3 hp (cut_rep r l u)⟩
    rw [r.length] at z
    rw [cut_whole z] at h3
    cases x with
    | d w =>
      cases w <;> first | cases e
      exact kE_d h3 o3 rv3
    | «at» _ => cases e
    | new _ => cases e
  · split at h3
    · rename_i xs e
      obtain ⟨p, vs, rfl, hq, r⟩ := asLst_ok o3 rv3 e
      exact .inr (.inl ⟨p, vs, rfl, .of hq, fun p hp => kE_new h3 o3 hp ⟨_, upd_same, cut_rep r l u⟩⟩)
    · split at h3
      · rename_i xs e
        obtain ⟨p, vs, rfl, hq, r⟩ := asScr_ok o3 rv3 e
        exact .inr (.inl ⟨p, vs, rfl, hq, fun p hp => kE_new h3 o3 hp ⟨_, upd_same, cut_rep r l u⟩⟩)
      · split at h3
        · rename_i z e
          split at h3
          · rename_i hz
            exact .inr (.inr ⟨z, asStr_ok rv3 e, hz, kE_d h3 o3 (.str _)⟩)
          · exact h3.elim
        · exact h3.elim
/-- a[::-1] -/
def opRev : S → RV → RV → Res RV := fun s a b => match asInt b with
  | some i => if i = -1 then (match asTup a with
    | some xs => .ok (.d (.tup xs.reverse)) s
    | none => match asLst s a with
      | some xs => .ok (.new (.lst xs.reverse)) s
      | none => .stuck) else .stuck
  | none => .stuck
theorem me_rev (ha : ME X W a ma) (hb : ME X W b mb) : ME X W (.Subscript a (.Slice none none (some b) p2) pos) (mBin opRev ma mb) := by
  refine pe_imp (pe_rev ha hb) fun σ H Q ⟨g, s, ok, h⟩ => ?_
  refine tM_settle ok (PostE.bind h) fun x g1 s1 H1 v t1 k1 o1 rv nn h1 => ?_
  refine ⟨g1, s1, o1, (PostE.bind h1).mono fun y g2 s2 H2 t2 k2 o2 h2 u ru => ?_⟩
  have rv2 : RepRV X.K g2 s2 H2 v x := rv.held nn t2 k2
  unfold opRev at h2
  split at h2
  · rename_i i e1
    by_cases hi : i = -1
    case neg => rw [if_neg hi] at h2; exact h2.elim
    rw [if_pos hi] at h2
    subst hi
    refine ⟨asInt_ok ru e1, ?_⟩
    split at h2
    · rename_i xs e
      obtain ⟨p, vs, rfl, hq, r⟩ := asTup_ok o2 rv2 e
      exact .inr ⟨p, vs, rfl, hq, fun p hp => kE_tup h2 o2 hp r.reverse⟩
    · split at h2
      · rename_i xs e
        obtain ⟨p, vs, rfl, hq, r⟩ := asLst_ok o2 rv2 e
        exact .inl ⟨p, vs, rfl, .of hq, fun p hp => kE_new h2 o2 hp ⟨_, upd_same, r.reverse⟩⟩
      · exact h2.elim
  · exact h2.elim
end
end MI
/-! # Built-in functions, methods of lists -/
namespace MI
open PySem L2

section
variable {K : PySem.W.Frag} {W : WX} {σ : St} {g : G} {s : S} {H : Hp}
/-- a built-in function of one value that makes nothing -/
def mFn1 (f : S → RV → Res RV) (m : M) : M := fun s => (m s).bind fun r s1 => f s1 r
end
section
variable {X : Cx} {W : WX} {e a b c : Expr} {me ma mb mc : M} {pos p : Pos} {x : Str}
/-- one argument that is not given away -/
theorem ma_one {r : List V → Hp → VK → Prop} {f : S → RV → Res RV}
    (hf : ∀ (σ : St) (g : G) (s : S) (H : Hp) (Q : VK) (v : V) (rv : RV), Ok X.K g s σ H → RepRV X.K g s H v rv → PostE X.K W σ g s H (kE X.K Q) (f s rv) → r [v] H Q)
    {σ : St} {H : Hp} {Q : VK} {g : G} {s : S} (ok : Ok X.K g s σ H) (h : PostE X.K W σ g s H (kE X.K Q) (mFn1 f me s)) : tCB r (tCons (tM X.K W me) tNil) σ H Q :=
  ⟨g, s, ok, (PostE.bind h).mono fun rv g1 s1 H1 t1 k1 o1 h1 v rr => hf σ g1 s1 H1 Q v rv o1 rr h1⟩
/-! ### len -/
def lenD : D → Option Nat
  | .str y => if y.length ≤ sizeLine then some y.length else none
  | .tup xs => some xs.length
  | .lst xs => some xs.length
  | .dic xs => some xs.length
  | .scr xs => some xs.length
  | _ => none
def fLen : S → RV → Res RV := fun s r => match (asD s r).bind lenD with
  | some n => .ok (.d (.int n)) s
  | none => .stuck
theorem call_lenM (hc : True) : CallR X (.builtin "len") (fun xs H Q => (∃ x n, xs = [x] ∧ LenV X.K x H n ∧ Q (.int n) H) ∨ ∃ p kvs, xs = [.ref p] ∧ H p = some (.dK kvs) ∧ Q (.int kvs.length) H) := by
  intro pins s σ H xs us Q I r h
  rcases h with h | ⟨p, kvs, rfl, hp, q⟩
  · exact call_len pins s σ H xs us Q I r h
  · exact call_lenD pins s σ H _ us Q I r ⟨p, kvs, rfl, hp, q⟩
theorem RepK.length {K : PySem.W.Frag} {g : G} : ∀ {v : List (Key × V)} {d : List (Key × D)}, RepK K g v d → v.length = d.length
  | _, _, .nil => rfl
  | _, _, .cons _ b => by rw [List.length_cons, List.length_cons, RepK.length b]
theorem me_len (ha : ME X W a ma) (hg : Gl X "len") (hm : X.mg "len" = none) (hs : starEach [a] X.env = (false, eval a X.env) :: starEach [] X.env := by rfl) : ME X W (.Call (.Name "len" p) [a] [] pos) (mFn1 fLen ma) := by
  refine pe_imp (pe_callB (call_lenM trivial) hg hm PySem.boot_len (pa_cons ha pa_nil hs) (he := hs)) fun σ H Q ⟨g, s, ok, h⟩ => ma_one (fun σ g s H Q v rv ok rr h => ?_) ok h
  unfold fLen at h
  cases e : (asD s rv).bind lenD with
  | none => simp only [e] at h; exact h.elim
  | some n =>
    simp only [e] at h
    cases e1 : asD s rv with
    | none => rw [e1] at e; cases e
    | some d =>
      rw [e1] at e
      have e2 : lenD d = some n := e
      obtain ⟨g1, l, sb, rp⟩ := asD_ok ok (GLe.refl g) ok.sub rr e1
      have fin := kE_d h ok (.int n)
      cases rp with
      | str x =>
        simp only [lenD] at e2
        split at e2
        · rename_i hl
          cases e2
          exact .inl ⟨_, _, rfl, ⟨hl, rfl⟩, fin⟩
        · cases e2
      | tup h1 r1 => cases e2; exact .inl ⟨_, _, rfl, .inr ⟨_, sqT_mono sb h1, rfl⟩, by rw [r1.length]; exact fin⟩
      | lst h1 r1 => cases e2; exact .inl ⟨_, _, rfl, .inl ⟨_, .of (sb _ _ h1), rfl⟩, by rw [r1.length]; exact fin⟩
      | scr h1 r1 => cases e2; exact .inl ⟨_, _, rfl, .inl ⟨_, sqL_mono sb h1, rfl⟩, by rw [r1.length]; exact fin⟩
      | dic h1 r1 => cases e2; exact .inr ⟨_, _, rfl, sb _ _ h1, by rw [r1.length]; exact fin⟩
      | _ => cases e2
/-! ### int, abs, list, tuple, min, max -/
def fInt : S → RV → Res RV := fun s r => match r with
  | .d (.int i) => .ok (.d (.int i)) s
  | .d (.bl k) => .ok (.d (.int (if k then 1 else 0))) s
  | _ => .stuck
theorem me_toInt (ha : ME X W a ma) (hg : Gl X "int") (hm : X.mg "int" = none) (hs : starEach [a] X.env = (false, eval a X.env) :: starEach [] X.env := by rfl) : ME X W (.Call (.Name "int" p) [a] [] pos) (mFn1 fInt ma) := by
  refine pe_imp (pe_callTy call_int1 hg hm (by decide +kernel) (pa_cons ha pa_nil hs) (he := hs)) fun σ H Q ⟨g, s, ok, h⟩ => ma_one (fun σ g s H Q v rv ok rr h => ?_) ok h
  unfold fInt at h
  split at h
  · cases (show Rep _ _ _ _ from rr); exact .inl ⟨_, rfl, kE_d h ok (.int _)⟩
  · cases (show Rep _ _ _ _ from rr); exact .inr ⟨_, rfl, kE_d h ok (.int _)⟩
  · exact h.elim
def fAbs : S → RV → Res RV := fun s r => match asInt r with
  | some i => .ok (.d (.int (if i < 0 then -i else i))) s
  | none => .stuck
theorem me_abs (ha : ME X W a ma) (hg : Gl X "abs") (hm : X.mg "abs" = none) (hs : starEach [a] X.env = (false, eval a X.env) :: starEach [] X.env := by rfl) : ME X W (.Call (.Name "abs" p) [a] [] pos) (mFn1 fAbs ma) := by
  refine pe_imp (pe_callB call_abs hg hm (by decide +kernel) (pa_cons ha pa_nil hs) (he := hs)) fun σ H Q ⟨g, s, ok, h⟩ => ma_one (fun σ g s H Q v rv ok rr h => ?_) ok h
  unfold fAbs at h
  split at h
  · rename_i i e; rw [asInt_ok rr e]; exact ⟨_, rfl, kE_d h ok (.int _)⟩
  · exact h.elim
def fList : S → RV → Res RV := fun s r => match asItems s r with
  | some xs => .ok (.new (.lst xs)) s
  | none => .stuck
theorem asItems_ok {K : PySem.W.Frag} {σ : St} {g : G} {s : S} {H : Hp} {v : V} {r : RV} {xs : List D} (ok : Ok K g s σ H) (h : RepRV K g s H v r) (e : asItems s r = some xs) :
    ∃ a vs, v = .ref a ∧ (SqL K H a vs ∨ SqT K H a vs) ∧ RepL K g vs xs := by
  unfold asItems at e
  split at e
  · rename_i zs e3
    cases e
    obtain ⟨a, vs, rfl, h, r2⟩ := asTup_ok ok h e3
    exact ⟨a, vs, rfl, .inr h, r2⟩
  · obtain ⟨a, vs, rfl, h, r2⟩ := asLst_ok ok h e
    exact ⟨a, vs, rfl, .inl (.of h), r2⟩
theorem me_list (ha : ME X W a ma) (hg : Gl X "list") (hm : X.mg "list" = none) (hs : starEach [a] X.env = (false, eval a X.env) :: starEach [] X.env := by rfl) : ME X W (.Call (.Name "list" p) [a] [] pos) (mFn1 fList ma) := by
  refine pe_imp (pe_callTy call_list_of hg hm (by decide +kernel) (pa_cons ha pa_nil hs) (he := hs)) fun σ H Q ⟨g, s, ok, h⟩ => ma_one (fun σ g s H Q v rv ok rr h => ?_) ok h
  unfold fList at h
  split at h
  · rename_i xs e
    obtain ⟨p, vs, rfl, hq, r⟩ := asItems_ok ok rr e
    exact ⟨p, vs, rfl, hq, fun l hl => kE_new h ok hl ⟨_, upd_same, r⟩⟩
  · exact h.elim
def fTuple : S → RV → Res RV := fun s r => match asItems s r with
  | some xs => .ok (.d (.tup xs)) s
  | none => .stuck
theorem me_tuple (ha : ME X W a ma) (hg : Gl X "tuple") (hm : X.mg "tuple" = none) (hs : starEach [a] X.env = (false, eval a X.env) :: starEach [] X.env := by rfl) : ME X W (.Call (.Name "tuple" p) [a] [] pos) (mFn1 fTuple ma) := by
  refine pe_imp (pe_callTy call_tuple_of hg hm (by decide +kernel) (pa_cons ha pa_nil hs) (he := hs)) fun σ H Q ⟨g, s, ok, h⟩ => ma_one (fun σ g s H Q v rv ok rr h => ?_) ok h
  unfold fTuple at h
  split at h
  · rename_i xs e
    unfold asItems at e
    split at e
    · rename_i zs e3
      cases e
      obtain ⟨a, vs, rfl, hq, r⟩ := asTup_ok ok rr e3
      refine ⟨a, vs, rfl, .inr ⟨hq, ?_⟩⟩
      cases rv with
      | d w =>
        cases w <;> first | cases e3
        exact kE_d h ok rr
      | «at» _ => cases e3
      | new _ => cases e3
    · obtain ⟨a, vs, rfl, hq, r⟩ := asLst_ok ok rr e
      exact ⟨a, vs, rfl, .inl ⟨.of hq, fun l hl => kE_tup h ok hl r⟩⟩
  · exact h.elim
/-- min, max of two or three ints -/
def intsOf : List D → Option (List Int)
  | [] => some []
  | .int i :: r => (intsOf r).map (i :: ·)
  | _ :: _ => none
def minI : Int → Int → Int := fun i j => if j < i then j else i
def maxI : Int → Int → Int := fun i j => if j > i then j else i
def mFn2 (f : Int → Int → Int) (m : S → Res (List D)) : M := fun s => (m s).bind fun ds s1 => match ds with
  | [.int i, .int j] => .ok (.d (.int (f i j))) s1
  | _ => .stuck
def mFn3 (f : Int → Int → Int) (m : S → Res (List D)) : M := fun s => (m s).bind fun ds s1 => match ds with
  | [.int i, .int j, .int k] => .ok (.d (.int (f (f i j) k))) s1
  | _ => .stuck
theorem nuMin2_int (i j : Int) : nuMin2 (.int i) (.int j) = some (.int (minI i j)) := by
  show some (if decide (j < i) = true then V.int j else V.int i) = some (.int (if j < i then j else i))
  by_cases h : j < i <;> simp [h]
theorem nuMax2_int (i j : Int) : nuMax2 (.int i) (.int j) = some (.int (maxI i j)) := by
  show some (if decide (i < j) = true then V.int j else V.int i) = some (.int (if j > i then j else i))
  by_cases h : i < j <;> simp [h]
theorem mFn2_of {f : Int → Int → Int} {f' : V → V → Option V} {es : List Expr} {m : S → Res (List D)} (hf : ∀ i j, f' (.int i) (.int j) = some (.int (f i j))) {σ : St} {H : Hp} {Q : VK} {g : G} {s : S} (ok : Ok X.K g s σ H)
    (h : PostE X.K W σ g s H (kE X.K Q) (mFn2 f m s)) : tCB (rNuC2 f') (tMA X.K W m) σ H Q := by
  refine ⟨g, s, ok, (PostE.bind h).mono fun ds g1 s1 H1 t1 k1 o1 h1 vs rs => ?_⟩
  split at h1
  · cases rs with
    | cons r1 rs =>
      cases rs with
      | cons r2 rs =>
        cases rs
        cases r1; cases r2
        exact ⟨_, _, _, rfl, hf _ _, kE_d h1 o1 (.int _)⟩
  · exact h1.elim
theorem mFn3_of {f : Int → Int → Int} {f' : V → V → V → Option V} {es : List Expr} {m : S → Res (List D)} (hf : ∀ i j k, f' (.int i) (.int j) (.int k) = some (.int (f (f i j) k))) {σ : St} {H : Hp} {Q : VK} {g : G} {s : S} (ok : Ok X.K g s σ H)
    (h : PostE X.K W σ g s H (kE X.K Q) (mFn3 f m s)) : tCB (rNuC3 f') (tMA X.K W m) σ H Q := by
  refine ⟨g, s, ok, (PostE.bind h).mono fun ds g1 s1 H1 t1 k1 o1 h1 vs rs => ?_⟩
  split at h1
  · cases rs with
    | cons r1 rs =>
      cases rs with
      | cons r2 rs =>
        cases rs with
        | cons r3 rs =>
          cases rs
          cases r1; cases r2; cases r3
          exact ⟨_, _, _, _, rfl, hf _ _ _, kE_d h1 o1 (.int _)⟩
  · exact h1.elim
theorem nuMin3_int (i j k : Int) : nuMin3 (.int i) (.int j) (.int k) = some (.int (minI (minI i j) k)) := by
  unfold nuMin3; rw [nuMin2_int]; exact nuMin2_int _ _
theorem nuMax3_int (i j k : Int) : nuMax3 (.int i) (.int j) (.int k) = some (.int (maxI (maxI i j) k)) := by
  unfold nuMax3; rw [nuMax2_int]; exact nuMax2_int _ _
section
variable {m : S → Res (List D)}
theorem me_min2 (hc : X.calm = true) (hA : MA X W [a, b] m) (hg : Gl X "min") (hm : X.mg "min" = none) (hs : starEach [a, b] X.env = (false, eval a X.env) :: starEach [b] X.env := by rfl) (hpl : (backTo pos (starEach [b] X.env)).any (·.1) = false := by rfl) : ME X W (.Call (.Name "min" p) [a, b] [] pos) (mFn2 minI m) :=
  pe_imp (pe_callB (call_min2Nu hc) hg hm (by decide +kernel) hA (he := hs) (hpl := hpl)) fun σ H Q ⟨g, s, ok, h⟩ => mFn2_of (es := [a, b]) nuMin2_int ok h
theorem me_max2 (hc : X.calm = true) (hA : MA X W [a, b] m) (hg : Gl X "max") (hm : X.mg "max" = none) (hs : starEach [a, b] X.env = (false, eval a X.env) :: starEach [b] X.env := by rfl) (hpl : (backTo pos (starEach [b] X.env)).any (·.1) = false := by rfl) : ME X W (.Call (.Name "max" p) [a, b] [] pos) (mFn2 maxI m) :=
  pe_imp (pe_callB (call_max2Nu hc) hg hm (by decide +kernel) hA (he := hs) (hpl := hpl)) fun σ H Q ⟨g, s, ok, h⟩ => mFn2_of (es := [a, b]) nuMax2_int ok h
theorem me_min3 (hc : X.calm = true) (hA : MA X W [a, b, c] m) (hg : Gl X "min") (hm : X.mg "min" = none) (hs : starEach [a, b, c] X.env = (false, eval a X.env) :: starEach [b, c] X.env := by rfl) (hpl : (backTo pos (starEach [b, c] X.env)).any (·.1) = false := by rfl) : ME X W (.Call (.Name "min" p) [a, b, c] [] pos) (mFn3 minI m) :=
  pe_imp (pe_callB (call_min3Nu hc) hg hm (by decide +kernel) hA (he := hs) (hpl := hpl)) fun σ H Q ⟨g, s, ok, h⟩ => mFn3_of (es := [a, b, c]) nuMin3_int ok h
theorem me_max3 (hc : X.calm = true) (hA : MA X W [a, b, c] m) (hg : Gl X "max") (hm : X.mg "max" = none) (hs : starEach [a, b, c] X.env = (false, eval a X.env) :: starEach [b, c] X.env := by rfl) (hpl : (backTo pos (starEach [b, c] X.env)).any (·.1) = false := by rfl) : ME X W (.Call (.Name "max" p) [a, b, c] [] pos) (mFn3 maxI m) :=
  pe_imp (pe_callB (call_max3Nu hc) hg hm (by decide +kernel) hA (he := hs) (hpl := hpl)) fun σ H Q ⟨g, s, ok, h⟩ => mFn3_of (es := [a, b, c]) nuMax3_int ok h
end
/-! ### -a -/
def fNeg : S → RV → Res RV := fun s r => match asInt r with
  | some i => .ok (.d (.int (-i))) s
  | none => .stuck
theorem me_neg (ha : ME X W a ma) : ME X W (.UnaryOp .USub a pos) (mFn1 fNeg ma) := by
  refine pe_imp (pe_un un_neg ha) fun σ H Q ⟨g, s, ok, h⟩ => ⟨g, s, ok, (PostE.bind h).mono fun rv g1 s1 H1 t1 k1 o1 h1 v rr => ?_⟩
  unfold fNeg at h1
  split at h1
  · rename_i i e; exact ⟨i, asInt_ok rr e, kE_d h1 o1 (.int _)⟩
  · exact h1.elim
/-! ### all, any of a list of bools -/
def blsOf : List D → Option (List Bool)
  | [] => some []
  | .bl b :: r => (blsOf r).map (b :: ·)
  | _ :: _ => none
theorem blsOf_ok {K : PySem.W.Frag} {g : G} : ∀ {vs : List V} {ds : List D} {bs : List Bool}, RepL K g vs ds → blsOf ds = some bs → vs = bs.map V.bl
  | _, _, _, .nil, e => by cases e; rfl
  | _, _, bs, .cons (d := d) a b, e => by
    cases d with
    | bl k =>
      cases a
      simp only [blsOf] at e
      obtain ⟨cs, e1, rfl⟩ := Option.map_eq_some_iff.mp e
      rw [blsOf_ok b e1]; rfl
    | _ => cases e
def fAll : S → RV → Res RV := fun s r => match (asLst s r).bind blsOf with
  | some bs => .ok (.d (.bl (bs.all id))) s
  | none => .stuck
def fAny : S → RV → Res RV := fun s r => match (asLst s r).bind blsOf with
  | some bs => .ok (.d (.bl (bs.any id))) s
  | none => .stuck
theorem bls_seq {K : PySem.W.Frag} {σ : St} {g : G} {s : S} {H : Hp} {v : V} {r : RV} {bs : List Bool} (ok : Ok K g s σ H) (h : RepRV K g s H v r) (e : (asLst s r).bind blsOf = some bs) : ∃ a, v = .ref a ∧ SqL K H a (bs.map V.bl) := by
  cases e1 : asLst s r with
  | none => rw [e1] at e; cases e
  | some xs =>
    rw [e1] at e
    obtain ⟨a, vs, rfl, hq, r⟩ := asLst_ok ok h e1
    have := blsOf_ok r e
    subst this
    exact ⟨a, rfl, .of hq⟩
theorem me_all (hc : X.calm = true) (ha : ME X W a ma) (hg : Gl X "all") (hm : X.mg "all" = none) (hs : starEach [a] X.env = (false, eval a X.env) :: starEach [] X.env := by rfl) : ME X W (.Call (.Name "all" p) [a] [] pos) (mFn1 fAll ma) := by
  refine pe_imp (pe_callB (cr_all hc) hg hm (by decide +kernel) (pa_cons ha pa_nil hs) (he := hs)) fun σ H Q ⟨g, s, ok, h⟩ => ma_one (fun σ g s H Q v rv ok rr h => ?_) ok h
  unfold fAll at h
  split at h
  · rename_i bs e
    obtain ⟨p, rfl, hq⟩ := bls_seq ok rr e
    exact ⟨p, bs, rfl, hq, kE_d h ok (.bl _)⟩
  · exact h.elim
theorem me_any (hc : X.calm = true) (ha : ME X W a ma) (hg : Gl X "any") (hm : X.mg "any" = none) (hs : starEach [a] X.env = (false, eval a X.env) :: starEach [] X.env := by rfl) : ME X W (.Call (.Name "any" p) [a] [] pos) (mFn1 fAny ma) := by
  refine pe_imp (pe_callB (cr_any hc) hg hm (by decide +kernel) (pa_cons ha pa_nil hs) (he := hs)) fun σ H Q ⟨g, s, ok, h⟩ => ma_one (fun σ g s H Q v rv ok rr h => ?_) ok h
  unfold fAny at h
  split at h
  · rename_i bs e
    obtain ⟨p, rfl, hq⟩ := bls_seq ok rr e
    exact ⟨p, bs, rfl, hq, kE_d h ok (.bl _)⟩
  · exact h.elim
/-! ### isinstance with a built-in class -/
inductive Ty where
  | int | str | bool | tup | lst | dic
def Ty.name : Ty → String
  | .int => "int" | .str => "str" | .bool => "bool" | .tup => "tuple" | .lst => "list" | .dic => "dict"
def isTy : Ty → D → Bool
  | .int, .int _ => true
  | .int, .bl _ => true
  | .bool, .bl _ => true
  | .str, .str _ => true
  | .tup, .tup _ => true
  | .lst, .lst _ => true
  | .dic, .dic _ => true
  | _, _ => false
def tyD : D → Option String
  | .non => some "NoneType" | .bl _ => some "bool" | .int _ => some "int" | .str _ => some "str" | .tup _ => some "tuple" | .lst _ => some "list" | .dic _ => some "dict" | .ref _ => none | .scr _ => none
theorem isTy_kit : ∀ (T : Ty) (d : D) (t : String), tyD d = some t → kitB t T.name = some (isTy T d) := by
  intro T d t e
  cases d <;> cases e <;> cases T <;> (simp only [isTy, Ty.name]; decide +kernel)
def fIsi (T : Ty) : S → RV → Res RV := fun s r => match asD s r with
  | some d => match tyD d with
    | some _ => .ok (.d (.bl (isTy T d))) s
    | none => .stuck
  | none => .stuck
theorem tyX_of {K : PySem.W.Frag} {g : G} {H : Hp} {v : V} {d : D} {t : String} (sb : Sub g.F H) (r : Rep K g v d) (e : tyD d = some t) : TyX K H v (.type t) := by
  cases r with
  | non => cases e; exact .base .non
  | bl b => cases e; exact .base (.bl b)
  | int i => cases e; exact .base (.int i)
  | str x => cases e; exact .base (.str x)
  | tup h _ =>
    cases e
    rcases sqT_mono sb h with (h | ⟨o, h⟩) | ⟨o, _, _, hk, hc, _⟩
    · exact .base (.tup h)
    · exact .fTuple h
    · exact .kTuple hk hc
  | lst h _ => cases e; exact .base (.lst (sb _ _ h))
  | dic h _ => cases e; exact .base (.dK (sb _ _ h))
  | ref _ _ => cases e
  | scr _ _ => cases e
theorem me_isi {T : Ty} {tn : Str} {p2 : Pos} (ha : ME X W a ma) (hg : Gl X "isinstance") (hm : X.mg "isinstance" = none) (hg2 : Gl X tn) (hm2 : X.mg tn = none) (hv : bootBuiltins tn = some (.type T.name)) (hn : tn ≠ "__name__" := by decide) (hdb : (tn == ("__debug__" : Str)) = false := by decide)
    (hs : starEach [a, .Name tn p2] X.env = (false, eval a X.env) :: starEach [.Name tn p2] X.env := by rfl) (hs2 : starEach [.Name tn p2] X.env = (false, eval (.Name tn p2) X.env) :: starEach [] X.env := by rfl) (hpl : (backTo pos (starEach [.Name tn p2] X.env)).any (·.1) = false := by rfl) :
    ME X W (.Call (.Name "isinstance" p) [a, .Name tn p2] [] pos) (mFn1 (fIsi T) ma) := by
  refine pe_imp (pe_callB call_isi hg hm (by decide +kernel) (pa_cons ha (pa_cons (pe_bltn (v := .ty T.name) hg2 hm2 hv rfl hn hdb) pa_nil hs2) hs) (he := hs) (hpl := hpl)) fun σ H Q ⟨g, s, ok, h⟩ => ?_
  refine ⟨g, s, ok, (PostE.bind h).mono fun rv g1 s1 H1 t1 k1 o1 h1 v rr => ?_⟩
  unfold fIsi at h1
  split at h1
  · rename_i d e1
    split at h1
    · rename_i t e2
      obtain ⟨g2, l, sb, rp⟩ := asD_ok o1 (GLe.refl g1) o1.sub rr e1
      exact ⟨v, .ty T.name, .type t, .type T.name, isTy T d, rfl, .ty _, tyX_of sb rp e2, kit_ty (isTy_kit T d t e2), kE_d h1 o1 (.bl _)⟩
    · exact h1.elim
  · exact h1.elim
end

/-! ### the store's objects are changed -/
@[simp] def locOf : RV → Option Loc
  | .at i => some (.sl i)
  | .d (.ref n) => some (.gl n)
  | _ => none
def setCell (s : S) (l : Loc) (o : MObj) : S := match l with
  | .sl i => { s with env := s.env.set i (.own o) }
  | .gl n => { s with gl := s.gl.set n o }
section
variable {K : PySem.W.Frag} {W : WX} {σ : St} {g : G} {s : S} {H : Hp}
theorem locOf_ok {v : V} {r : RV} {l : Loc} (h : RepRV K g s H v r) (e : locOf r = some l) : v = .ref (g.adr l) := by
  cases r with
  | d x =>
    cases x <;> first | cases e
    cases (show Rep K g v _ from h); rfl
  | «at» i => cases e; exact h
  | new o => cases e
theorem cellOf_setCell {l l' : Loc} {o o' w : MObj} (h : cellOf s l = some o) (e : cellOf (setCell s l o') l' = some w) : (l' = l ∧ w = o') ∨ (l' ≠ l ∧ cellOf s l' = some w) := by
  cases l with
  | sl i =>
    have hi : i < s.env.length := by
      have h' : (match s.env[i]? with | some (.own o) => some o | _ => none) = some o := h
      split at h'
      · rename_i e; exact (List.getElem?_eq_some_iff.mp e).1
      · cases h'
    rcases cellOf_set hi e with ⟨z, z2⟩ | z
    · cases z2; exact .inl ⟨z, rfl⟩
    · exact .inr z
  | gl n =>
    have hn : n < s.gl.length := (List.getElem?_eq_some_iff.mp h).1
    cases l' with
    | sl j => exact .inr ⟨(fun z => nomatch z), e⟩
    | gl m =>
      have e' : (s.gl.set n o')[m]? = some w := e
      by_cases z : m = n
      · subst z; rw [List.getElem?_set_self hn] at e'; cases e'; exact .inl ⟨rfl, rfl⟩
      · rw [List.getElem?_set_ne (Ne.symm z)] at e'; exact .inr ⟨fun q => z (by cases q; rfl), e'⟩
/-- the object at l is changed -/
theorem Ok.change {l : Loc} {o o' : MObj} {ho : HO} (ok : Ok K g s σ H) (h : cellOf s l = some o) (r : ObjRep K g (upd H (g.adr l) ho) (g.adr l) o') :
    Ok K g (setCell s l o') σ (upd H (g.adr l) ho) ∧ Step g H g (upd H (g.adr l) ho) := by
  obtain ⟨f, q⟩ := ok.cell l o h
  have np : ¬ g.P (g.adr l) := fun p => (ok.prot _ p).2.2 ⟨l, o, h, rfl⟩
  have cs : ∀ {l' w}, cellOf (setCell s l o') l' = some w → ∃ w', cellOf s l' = some w' := fun e => by
    rcases cellOf_setCell h e with ⟨rfl, _⟩ | ⟨_, z⟩
    · exact ⟨o, h⟩
    · exact ⟨_, z⟩
  refine ⟨⟨fun b u e => ?_, fun l' w e => ?_, fun l1 l2 w1 w2 e1 e2 z => ?_, fun i x e => ?_, ?_, ?_, fun b p => ?_⟩, GLe.refl _, rfl, fun b p => upd_ne fun z => np (by rw [← z]; exact p)⟩
  · rw [upd_ne (fun z => by rw [z, f] at e; cases e)]; exact ok.sub b u e
  · rcases cellOf_setCell h e with ⟨rfl, rfl⟩ | ⟨hl, z⟩
    · exact ⟨f, r⟩
    · obtain ⟨f', r'⟩ := ok.cell l' w z
      exact ⟨f', r'.mono (GLe.refl _) (upd_ne fun q => hl (ok.inj _ _ _ _ z h q))⟩
  · obtain ⟨w1', h1⟩ := cs e1
    obtain ⟨w2', h2⟩ := cs e2
    exact ok.inj _ _ _ _ h1 h2 z
  · cases l with
    | gl n => exact ok.env i x e
    | sl j =>
      have hj : j < s.env.length := by
        have h' : (match s.env[j]? with | some (.own o) => some o | _ => none) = some o := h
        split at h'
        · rename_i e; exact (List.getElem?_eq_some_iff.mp e).1
        · cases h'
      have e' : (s.env.set j (.own o'))[i]? = some x := e
      by_cases z : i = j
      · subst z
        rw [List.getElem?_set_self hj] at e'
        cases e'
        have h' : (match s.env[i]? with | some (.own o) => some o | _ => none) = some o := h
        split at h'
        · rename_i e; have q := ok.env i _ e; exact q
        · cases h'
      · rw [List.getElem?_set_ne (Ne.symm z)] at e'
        exact ok.env i x e'
  · cases l with
    | gl n => exact ok.len
    | sl j => exact (List.length_set ..).trans ok.len
  · cases l with
    | gl n => exact ok.ng.trans (List.length_set ..).symm
    | sl j => exact ok.ng
  · obtain ⟨h1, h2, h3⟩ := ok.prot b p
    refine ⟨?_, h2, fun ⟨l', w, e, z⟩ => ?_⟩
    · rw [upd_ne (fun z => np (by rw [← z]; exact p))]; exact h1
    · obtain ⟨w', h'⟩ := cs e
      exact h3 ⟨l', w', h', z⟩
theorem setCell_keep {l : Loc} {o : MObj} {r : RV} {v : V} {ho : HO} : True := trivial
/-- the end of a method that changes its receiver -/
theorem kE_change {Q : VK} {l : Loc} {o o' : MObj} {ho : HO} {v : V} {x : D} (ok : Ok K g s σ H) (h : cellOf s l = some o) (r : ObjRep K g (upd H (g.adr l) ho) (g.adr l) o') (rx : Rep K g v x)
    (q : PostE K W σ g s H (kE K Q) (.ok (.d x) (setCell s l o'))) : Q v (upd H (g.adr l) ho) := by
  obtain ⟨o1, t1⟩ := ok.change h r
  exact q g _ t1 (SlKeep.refl _) o1 v rx
theorem cell_lst {l : Loc} {xs : List D} (ok : Ok K g s σ H) (h : cellOf s l = some (.lst xs)) : ∃ vs, H (g.adr l) = some (.lst vs) ∧ RepL K g vs xs := (ok.cell l _ h).2
end
/-- a method of a list with one argument given away -/
def mLm1 (f : List D → D → Option (D × List D)) (o a : M) : M := fun s => (o s).bind fun r s1 => match locOf r with
  | some l => (match cellOf s1 l with
    | some (.lst _) => (mLeak a s1).bind fun d s2 => (match cellOf s2 l with
      | some (.lst xs) => (match f xs d with
        | some (x, ys) => .ok (.d x) (setCell s2 l (.lst ys))
        | none => .stuck)
      | _ => .stuck)
    | _ => .stuck)
  | none => .stuck
def fAppend : List D → D → Option (D × List D) := fun xs d => if xs.length < sizeLine then some (.non, xs ++ [d]) else none
section
variable {X : Cx} {W : WX} {o a b : Expr} {mo ma mb : M} {apos cpos : Pos}
theorem mLm1_of {f : List D → D → Option (D × List D)} {r : V → List V → Hp → VK → Prop}
    (hf : ∀ (g : G) (l : Addr) (vs : List V) (xs : List D) (y : V) (d : D) (x : D) (ys : List D) (H : Hp) (Q : VK), RepL X.K g vs xs → Rep X.K g y d → H l = some (.lst vs) → f xs d = some (x, ys) →
      (∀ v ws, Rep X.K g v x → RepL X.K g ws ys → Q v (upd H l (.lst ws))) → r (.ref l) [y] H Q)
    {σ : St} {H : Hp} {Q : VK} {g : G} {s : S} (ok : Ok X.K g s σ H) (h : PostE X.K W σ g s H (kE X.K Q) (mLm1 f mo ma s)) : tBM X.K "list" r (tM X.K W mo) (tCons (tM X.K W ma) tNil) σ H Q := by
  refine ⟨g, s, ok, (PostE.bind h).mono fun rv g1 s1 H1 t1 k1 o1 h1 v rr => ?_⟩
  split at h1
  · rename_i l e1
    have hv := locOf_ok rr e1
    subst hv
    split at h1
    · rename_i zs e2
      obtain ⟨us, hu, _⟩ := cell_lst o1 e2
      refine ⟨.inl ⟨rfl, us, .of hu⟩, ?_⟩
      refine tM_leak o1 (PostE.bind h1) fun d g2 s2 H2 y t2 k2 o2 ry h2 => ?_
      have el : g2.adr l = g1.adr l := by
        cases l with
        | sl i => exact k2 i
        | gl n => exact t2.le.adr n (by rw [o1.ng]; exact gl_cell e2)
      split at h2
      · rename_i xs e3
        split at h2
        · rename_i x ys e4
          obtain ⟨vs, hvs, rvs⟩ := cell_lst o2 e3
          show r (.ref (g1.adr l)) [y] H2 Q
          rw [← el]
          exact hf g2 _ vs xs y d x ys H2 Q rvs ry hvs e4 fun v ws rv rw' => kE_change (o' := .lst ys) o2 e3 ⟨ws, upd_same, rw'⟩ rv h2
        · exact h2.elim
      · exact h2.elim
    · exact h1.elim
  · exact h1.elim
theorem me_append (ho : ME X W o mo) (ha : ME X W a ma) (hbase : attributeBase o "append" X.env (eval o X.env) = eval o X.env := by rfl)
    (hfew : ((backTo cpos (starEach [a] X.env)).all (fun x => !x.1) && (backToKw cpos (keywordEach [] X.env)).all (fun x => x.1.isSome)
      && decide ([a].length + ([] : List Keyword).length + (if ([] : List Keyword).isEmpty then 0 else 1) < 30)) = true := by rfl)
    (hline : (apos.endLine == cpos.line) = true := by rfl) (hs : starEach [a] X.env = (false, eval a X.env) :: starEach [] X.env := by rfl) :
    ME X W (.Call (.Attribute o "append" apos) [a] [] cpos) (mLm1 fAppend mo ma) := by
  have z := pe_bm PySem.F.plainAttrs_list PySem.F.slot_list_append PySem.F.type_list_append mt_append ho (pa_cons ha pa_nil hs) hbase hfew hline hs
  refine pe_imp z fun σ H Q h => ?_
  obtain ⟨g, s, ok, h⟩ := h
  refine mLm1_of (fun g l vs xs y d x ys H Q rvs ry hl e q => ?_) ok h
  clear h
  unfold fAppend at e
  split at e
  · rename_i hz
    cases e
    exact ⟨l, vs, y, rfl, rfl, hl, by rw [rvs.length]; exact hz, q _ _ .non (rvs.append (.one ry))⟩
  · cases e
end
end MI
/-! # Loops, comprehensions -/
namespace MI
open PySem L2

/-! ### what is walked -/
def Walk (K : PySem.W.Frag) (J : It) (ds : List D) (g : G) : Prop := ∀ g' s' σ' H', GLe g g' → Ok K g' s' σ' H' →
  J.stop ds.length H' ∧ ∀ i d, ds[i]? = some d → J.go i H' ∧ ∀ x H'', J.yld i H' x H'' → ∃ g'', Step g' H' g'' H'' ∧ SlKeep g' g'' ∧ Ok K g'' s' σ' H'' ∧ Rep K g'' x d
abbrev kI (K : PySem.W.Frag) (R : It → Hp → Prop) : List D → G → S → Hp → Prop := fun ds g _ H => ∀ J, Walk K J ds g → R J H
def tMI (K : PySem.W.Frag) (W : WX) (m : S → Res (List D)) : TI := fun σ H R => ∃ g s, Ok K g s σ H ∧ PostE K W σ g s H (kI K R) (m s)
def MIt (X : Cx) (W : WX) (tg iter : Expr) (m : S → Res (List D)) : Prop := PI X tg iter (tMI X.K W m)
theorem pi_imp {X : Cx} {tg e : Expr} {t t' : TI} (h : PI X tg e t) (i : ∀ σ H R, t' σ H R → t σ H R) : PI X tg e t' :=
  ⟨fun pins s σ H R I q => h.run pins s σ H R I (i σ H R q)⟩
/-- a target: what it does to the names -/
def MGk (K : PySem.W.Frag) (gt : TG) (is : List Nat) (t : D → S → Option S) : Prop :=
  ∀ g s σ H v d s', Ok K g s σ H → Rep K g v d → t d s = some s' → ∃ ws, Ok K g s' (setAll σ is ws) H ∧ ∀ Q : St → Hp → Prop, Q (setAll σ is ws) H → gt v σ H Q
structure MG (X : Cx) (tg : Expr) (gt : TG) (is : List Nat) (t : D → S → Option S) : Prop where
  pg : PG X tg gt
  ok : MGk X.K gt is t

def iSeq (m : M) : S → Res (List D) := fun s => (mLeak m s).bind fun d s1 => match d with
  | .lst xs => .ok xs s1
  | .tup xs => .ok xs s1
  | .scr xs => .ok xs s1
  | _ => .stuck
def iLst (m : M) : S → Res (List D) := fun s => (mLeak m s).bind fun d s1 => match d with
  | .lst xs => .ok xs s1
  | .scr xs => .ok xs s1
  | _ => .stuck
def iTup (m : M) : S → Res (List D) := fun s => (mLeak m s).bind fun d s1 => match d with
  | .tup xs => .ok xs s1
  | _ => .stuck
def rangeD (lo : Int) : Nat → List D
  | 0 => []
  | n + 1 => .int lo :: rangeD (lo + 1) n
theorem rangeD_len : ∀ (n : Nat) (lo : Int), (rangeD lo n).length = n
  | 0, _ => rfl
  | n + 1, lo => by rw [rangeD, List.length_cons, rangeD_len n]
theorem rangeD_get : ∀ (n : Nat) (lo : Int) (i : Nat) (d : D), (rangeD lo n)[i]? = some d → i < n ∧ d = .int (lo + i)
  | 0, _, _, _, e => by simp [rangeD] at e
  | n + 1, lo, 0, d, e => by simp [rangeD] at e; subst e; simp
  | n + 1, lo, i + 1, d, e => by
    obtain ⟨h1, h2⟩ := rangeD_get n (lo + 1) i d (by simpa [rangeD] using e)
    refine ⟨by omega, ?_⟩
    rw [h2]
    congr 1
    push_cast
    omega
theorem rng1_ex (j : Int) : ∃ r : Option (List D), r = if -(2 ^ 62) ≤ j ∧ j < 2 ^ 62 then some (rangeD 0 j.toNat) else none := ⟨_, rfl⟩
theorem rng2_ex (i j : Int) : ∃ r : Option (List D), r = if -(2 ^ 62) ≤ i ∧ i < 2 ^ 62 ∧ -(2 ^ 62) ≤ j ∧ j < 2 ^ 62 then some (rangeD i (j - i).toNat) else none := ⟨_, rfl⟩
/-- (by choice: nothing is worked out by the kernel) -/
noncomputable def rng1 (j : Int) : Option (List D) := Classical.choose (rng1_ex j)
noncomputable def rng2 (i j : Int) : Option (List D) := Classical.choose (rng2_ex i j)
theorem rng1_eq (j : Int) : rng1 j = if -(2 ^ 62) ≤ j ∧ j < 2 ^ 62 then some (rangeD 0 j.toNat) else none := Classical.choose_spec (rng1_ex j)
theorem rng2_eq (i j : Int) : rng2 i j = if -(2 ^ 62) ≤ i ∧ i < 2 ^ 62 ∧ -(2 ^ 62) ≤ j ∧ j < 2 ^ 62 then some (rangeD i (j - i).toNat) else none := Classical.choose_spec (rng2_ex i j)
noncomputable def iRange1 (m : S → Res (List D)) : S → Res (List D) := fun s => (m s).bind fun ds s1 => match ds with
  | [.int j] => (match rng1 j with
    | some l => .ok l s1
    | none => .stuck)
  | _ => .stuck
noncomputable def iRange2 (m : S → Res (List D)) : S → Res (List D) := fun s => (m s).bind fun ds s1 => match ds with
  | [.int i, .int j] => (match rng2 i j with
    | some l => .ok l s1
    | none => .stuck)
  | _ => .stuck
section
variable {K : PySem.W.Frag}
theorem walk_lst {g : G} {a : Addr} {vs : List V} {ds : List D} (h : SqL K g.F a vs) (r : RepL K g vs ds) (inj : ∀ H, Sub g.F H → ∀ xs, SqL K H a xs → xs = vs) : Walk K (Itl K a) ds g := by
  intro g' s' σ' H' l ok
  have hq : SqL K H' a vs := sqL_mono (l.F.trans ok.sub) h
  refine ⟨⟨vs, hq, by rw [r.length]; exact Nat.le_refl _⟩, fun i d e => ?_⟩
  obtain ⟨v, hv, rv⟩ := r.get e
  refine ⟨⟨vs, v, hq, hv⟩, fun x H'' ⟨e1, e2⟩ => ?_⟩
  subst e1
  have := e2 vs hq
  rw [hv] at this
  cases this
  exact ⟨g', Step.refl _ _, SlKeep.refl _, ok, rv.mono l⟩
theorem walk_lst' {g : G} {a : Addr} {vs : List V} {ds : List D} (h : SqL K g.F a vs) (r : RepL K g vs ds) : Walk K (Itl K a) ds g := by
  intro g' s' σ' H' l ok
  have hq : SqL K H' a vs := sqL_mono (l.F.trans ok.sub) h
  refine ⟨⟨vs, hq, by rw [r.length]; exact Nat.le_refl _⟩, fun i d e => ?_⟩
  obtain ⟨v, hv, rv⟩ := r.get e
  refine ⟨⟨vs, v, hq, hv⟩, fun x H'' ⟨e1, e2⟩ => ?_⟩
  subst e1
  have := e2 vs hq
  rw [hv] at this
  cases this
  exact ⟨g', Step.refl _ _, SlKeep.refl _, ok, rv.mono l⟩
theorem walk_tup {g : G} {a : Addr} {vs : List V} {ds : List D} (h : SqT K g.F a vs) (r : RepL K g vs ds) : Walk K (Itt K a) ds g := by
  intro g' s' σ' H' l ok
  have hq : SqT K H' a vs := sqT_mono (l.F.trans ok.sub) h
  refine ⟨⟨vs, hq, by rw [r.length]; exact Nat.le_refl _⟩, fun i d e => ?_⟩
  obtain ⟨v, hv, rv⟩ := r.get e
  refine ⟨⟨vs, v, hq, hv⟩, fun x H'' ⟨e1, e2⟩ => ?_⟩
  subst e1
  have := e2 vs hq
  rw [hv] at this
  cases this
  exact ⟨g', Step.refl _ _, SlKeep.refl _, ok, rv.mono l⟩
theorem walk_rng {g : G} {lo : Int} {n : Nat} : Walk K (Itr lo n) (rangeD lo n) g := by
  intro g' s' σ' H' l ok
  refine ⟨by rw [rangeD_len]; exact Nat.le_refl _, fun i d e => ?_⟩
  obtain ⟨h1, rfl⟩ := rangeD_get n lo i d e
  refine ⟨h1, fun x H'' ⟨e1, e2⟩ => ?_⟩
  subst e1 e2
  exact ⟨g', Step.refl _ _, SlKeep.refl _, ok, .int _⟩
end
section
variable {X : Cx} {W : WX} {tg e a b : Expr} {me : M} {m : S → Res (List D)} {p pos : Pos}
theorem mi_lst (he : ME X W e me) : MIt X W tg e (iLst me) := by
  refine pi_imp (pi_list he) fun σ H R h => ?_
  obtain ⟨g, s, ok, h⟩ := h
  refine tM_leak ok (PostE.bind h) fun d g1 s1 H1 v t1 k1 o1 rv h1 => ?_
  split at h1
  · cases rv with
    | lst hq r => exact ⟨_, rfl, ⟨_, .of (o1.sub _ _ hq)⟩, PostE.done h1 o1 _ (walk_lst' (.of hq) r)⟩
  · cases rv with
    | scr hq r => exact ⟨_, rfl, ⟨_, sqL_mono o1.sub hq⟩, PostE.done h1 o1 _ (walk_lst' hq r)⟩
  · exact h1.elim
theorem mi_tup (he : ME X W e me) : MIt X W tg e (iTup me) := by
  refine pi_imp (pi_tup he) fun σ H R h => ?_
  obtain ⟨g, s, ok, h⟩ := h
  refine tM_leak ok (PostE.bind h) fun d g1 s1 H1 v t1 k1 o1 rv h1 => ?_
  split at h1
  · cases rv with
    | tup hq r => exact ⟨_, rfl, ⟨_, sqT_mono o1.sub hq⟩, PostE.done h1 o1 _ (walk_tup hq r)⟩
  · exact h1.elim
/-- of two readings of what is walked the one that is not stuck -/
def orI (a b : S → Res (List D)) : S → Res (List D) := fun s => match a s with
  | .stuck => b s
  | r => r
theorem pi_or2 {t t' : TI} (h : PI X tg e t) (h' : PI X tg e t') : PI X tg e (fun σ H R => t σ H R ∨ t' σ H R) :=
  ⟨fun pins s σ H R I q => q.elim (h.run pins s σ H R I) (h'.run pins s σ H R I)⟩
theorem mi_alt {ma mb : S → Res (List D)} (ha : MIt X W tg e ma) (hb : MIt X W tg e mb) : MIt X W tg e (orI ma mb) := by
  refine pi_imp (pi_or2 ha hb) fun σ H Q h => ?_
  obtain ⟨g, s, ok, h⟩ := h
  unfold orI at h
  cases q : ma s with
  | ok a s' => simp only [q] at h; exact .inl ⟨g, s, ok, by rw [q]; exact h⟩
  | exc c p s' => simp only [q] at h; exact .inl ⟨g, s, ok, by rw [q]; exact h⟩
  | stuck => simp only [q] at h; exact .inr ⟨g, s, ok, h⟩
theorem mi_imp {m m' : S → Res (List D)} (h : MIt X W tg e m) (i : ∀ s, m' s = .stuck ∨ m' s = m s) : MIt X W tg e m' := by
  refine pi_imp h fun σ H R ⟨g, s, ok, h⟩ => ?_
  rcases i s with z | z
  · rw [z] at h; exact h.elim
  · rw [z] at h; exact ⟨g, s, ok, h⟩
theorem mi_seq (he : ME X W e me) : MIt X W tg e (iSeq me) := by
  refine mi_imp (mi_alt (mi_lst he) (mi_tup he)) fun s => ?_
  unfold iSeq orI iLst iTup
  cases h : mLeak me s with
  | ok d s1 => cases d <;> simp
  | exc c p s1 => simp
  | stuck => simp
theorem mi_range1 (ha : MA X W [a] m) (hg : Gl X "range") (hm : X.mg "range" = none) (hs : starEach [a] X.env = [(false, eval a X.env)] := by rfl) : MIt X W tg (.Call (.Name "range" p) [a] [] pos) (iRange1 m) := by
  refine pi_imp (pi_range1 hg hm ha hs) fun σ H R h => ?_
  obtain ⟨g, s, ok, h⟩ := h
  refine ⟨g, s, ok, (PostE.bind h).mono fun ds g1 s1 H1 t1 k1 o1 h1 vs rs => ?_⟩
  split at h1
  · cases rs with
    | cons r1 rs =>
      cases rs
      cases r1
      split at h1
      · rename_i hz
        rw [rng1_eq] at hz
        split at hz
        · rename_i hz2
          cases hz
          exact ⟨_, rfl, hz2.1, hz2.2, PostE.done h1 o1 _ walk_rng⟩
        · cases hz
      · exact h1.elim
  · exact h1.elim
theorem mi_range2 (ha : MA X W [a, b] m) (hg : Gl X "range") (hm : X.mg "range" = none) (hs : starEach [a, b] X.env = [(false, eval a X.env), (false, eval b X.env)] := by rfl) (hs2 : starEach [b] X.env = [(false, eval b X.env)] := by rfl) : MIt X W tg (.Call (.Name "range" p) [a, b] [] pos) (iRange2 m) := by
  refine pi_imp (pi_range2 hg hm ha hs hs2) fun σ H R h => ?_
  obtain ⟨g, s, ok, h⟩ := h
  refine ⟨g, s, ok, (PostE.bind h).mono fun ds g1 s1 H1 t1 k1 o1 h1 vs rs => ?_⟩
  split at h1
  · cases rs with
    | cons r1 rs =>
      cases rs with
      | cons r2 rs =>
        cases rs
        cases r1; cases r2
        split at h1
        · rename_i hz
          rw [rng2_eq] at hz
          split at hz
          · rename_i hz2
            cases hz
            exact ⟨_, _, rfl, hz2, PostE.done h1 o1 _ walk_rng⟩
          · cases hz
        · exact h1.elim
  · exact h1.elim
/-! ### targets -/
def tgName (i : Nat) : D → S → Option S := fun d s => assign i (.d d) s
def tgTup (is : List Nat) : D → S → Option S := fun d s => match d with
  | .tup ds => assignAll is (ds.map .d) s
  | _ => none
theorem mgk_name {K : PySem.W.Frag} {i : Nat} : MGk K (gName i) [i] (tgName i) := fun g s σ H v d s' ok r e => by
  simp only [tgName, assign] at e
  split at e
  · rename_i hl
    cases e
    exact ⟨[v], ok.setVal r hl, fun Q q => q⟩
  · cases e
theorem mg_name {i : Nat} {x : Str} (hN : X.N.Nodup) (hi : X.N[i]? = some x := by rfl) (hx : L2.Loc X.env.scope x := by first | exact Or.inl rfl | exact Or.inr rfl) (hf : X.fn x = true ∨ X.env.scope.names.lookup x = some .local := by first | exact .inl rfl | exact .inr rfl) :
    MG X (.Name x pos) (gName i) [i] (tgName i) := ⟨pg_name hN hi hx hf, mgk_name⟩
theorem assignAll_d {K : PySem.W.Frag} {g : G} {H : Hp} : ∀ {is : List Nat} {vs : List V} {ds : List D} {σ : St} {s s' : S}, Ok K g s σ H → RepL K g vs ds → assignAll is (ds.map .d) s = some s' → Ok K g s' (setAll σ is vs) H
  | [], _, _, σ, s, s', ok, .nil, e => by cases e; exact ok
  | [], _, _, σ, s, s', ok, .cons _ _, e => by cases e
  | i :: is, _, _, σ, s, s', ok, .nil, e => by cases e
  | i :: is, _, _, σ, s, s', ok, .cons (d := d) a b, e => by
    simp only [List.map_cons, assignAll, assign] at e
    split at e
    · rename_i s1 e1
      split at e1
      · rename_i hl
        cases e1
        have z := assignAll_d (ok.setVal a hl) b e
        exact z
      · cases e1
    · cases e
theorem mgk_tup {K : PySem.W.Frag} {is : List Nat} : MGk K (gTup K is.length (gNames is)) is (tgTup is) := fun g s σ H v d s' ok r e => by
  unfold tgTup at e
  split at e
  · rename_i ds
    cases r with
    | tup hq rl =>
      refine ⟨_, assignAll_d ok rl e, fun Q q => ?_⟩
      have hl := (assignAll_len e).trans ((List.length_map _).trans rl.length.symm)
      exact ⟨_, _, rfl, sqT_mono ok.sub hq, hl.symm, gNames_set hl q⟩
  · cases e
theorem mg_tup {ts : List Expr} {is : List Nat} {k : Nat} (hc : X.calm = true) (h : PGs X ts (gNames is)) (hn : (assignEach ts X.env).length = is.length := by rfl) (hst : (assignEach ts X.env).findIdx? (·.1) = none := by rfl) :
    MG X (.Tuple ts k pos) (gTup X.K is.length (gNames is)) is (tgTup is) := ⟨pg_tup hc h hn hst, mgk_tup⟩
end

/-! ### for -/
def forGo (t : D → S → Option S) (body : S → Res Out) : List D → S → Res Out
  | [], s => .ok .nx s
  | d :: ds, s => match t d s with
    | none => .stuck
    | some s1 => match body s1 with
      | .ok .nx s2 => forGo t body ds s2
      | .ok .ct s2 => forGo t body ds s2
      | .ok .bk s2 => .ok .nx s2
      | r => r
def mFor (it : S → Res (List D)) (t : D → S → Option S) (body : S → Res Out) : S → Res Out := fun s => (it s).bind fun ds s1 => forGo t body ds s1
section
variable {X : Cx} {W : WX} {tg iter : Expr} {body : List Stmt} {it : S → Res (List D)} {gt : TG} {is : List Nat} {t : D → S → Option S} {mb : S → Res Out} {pos : Pos}
theorem ms_for (hp : PassesOwn (model X.prog X.w) X.A X.env X.xe) (hc : X.calm = true) (hi : MIt X W tg iter it) (hg : MG X tg gt is t) (hb : MSs X W body mb)
    (hs : ∀ x, foldedSetIterable iter X.env x = pure x := by intro _; rfl) : MS X W (.For tg iter body [] pos) (mFor it t mb) := by
  refine ps_imp (ps_for hp hc hi hg.pg hb hs) fun D σ H h => ?_
  obtain ⟨g, s, ok, h⟩ := h
  refine ⟨g, s, ok, (PostS.bind h).mono fun ds g1 s1 H1 t1 k1 o1 h1 J hJ => ?_⟩
  refine ⟨fun i m σ' H' => m = ds.length - i ∧ i ≤ ds.length ∧ ∃ g' s', Step g1 H1 g' H' ∧ Ok X.K g' s' σ' H' ∧ PostS X.K W g' s' H' D (forGo t mb (ds.drop i) s'), ⟨ds.length, by simp, Nat.zero_le _, g1, s1, Step.refl _ _, o1, by simpa using h1⟩, ?_⟩
  rintro i m σ' H' ⟨rfl, hi, g', s', t', o', h'⟩
  obtain ⟨st, go⟩ := hJ g' s' σ' H' t'.le o'
  by_cases hlt : i < ds.length
  · obtain ⟨d, hd⟩ : ∃ d, ds[i]? = some d := ⟨_, List.getElem?_eq_getElem hlt⟩
    have hdrop : ds.drop i = d :: ds.drop (i + 1) := by
      rw [List.drop_eq_getElem_cons hlt]
      congr 1
      rw [List.getElem?_eq_getElem hlt] at hd
      exact Option.some.inj hd
    obtain ⟨go1, yl⟩ := go i d hd
    refine .inr ⟨go1, fun σ3 H3 => ∃ g3 s3, Step g1 H1 g3 H3 ∧ Ok X.K g3 s3 σ3 H3 ∧ PostS X.K W g3 s3 H3 D (forGo t mb (ds.drop (i + 1)) s3), fun σ3 H3 ⟨g3, s3, t3, o3, h3⟩ => ⟨ds.length - (i + 1), by omega, rfl, hlt, g3, s3, t3, o3, h3⟩, fun x H2 y => ?_⟩
    obtain ⟨g2, t2, k2, o2, r2⟩ := yl x H2 y
    have h2 := PostS.after (s' := s') h' t2
    rw [hdrop] at h2
    unfold forGo at h2
    cases e : t d s' with
    | none => simp only [e] at h2; exact h2.elim
    | some s2 =>
      simp only [e] at h2
      obtain ⟨ws, o2', hQ⟩ := hg.ok g2 s' σ' H2 x d s2 o2 r2 e
      refine hQ _ ⟨g2, s2, o2', ?_⟩
      have tt := t'.trans t2
      cases e2 : mb s2 with
      | ok o s3 =>
        simp only [e2] at h2
        cases o with
        | nx => exact fun σ3 g3 H3 t3 o3 => ⟨g3, s3, tt.trans t3, o3, PostS.after h2 t3⟩
        | ct => exact fun σ3 g3 H3 t3 o3 => ⟨g3, s3, tt.trans t3, o3, PostS.after h2 t3⟩
        | bk => exact fun σ3 g3 H3 t3 o3 => h2 σ3 g3 H3 t3 o3
        | rt d => exact fun v σ3 g3 H3 t3 o3 rv => h2 v σ3 g3 H3 t3 o3 rv
      | exc c p s3 => simp only [e2] at h2; exact h2
      | stuck => simp only [e2] at h2; exact h2
  · have e : i = ds.length := by omega
    subst e
    refine .inl ⟨st, ?_⟩
    rw [List.drop_length] at h'
    exact PostS.nx h' o'
end

/-! ### while -/
def whileGo (c : S → Res Bool) (b : S → Res Out) : Nat → S → Res Out
  | 0, _ => .stuck
  | n + 1, s => (c s).bind fun k s1 => if k = true then (match b s1 with
    | .ok .nx s2 => whileGo c b n s2
    | .ok .ct s2 => whileGo c b n s2
    | .ok .bk s2 => .ok .nx s2
    | r => r) else .ok .nx s1
open Classical in
noncomputable def mWhile (c : S → Res Bool) (b : S → Res Out) : S → Res Out := fun s => if h : ∃ n, whileGo c b n s ≠ .stuck then whileGo c b (Classical.choose h) s else .stuck
theorem whileGo_mono {c : S → Res Bool} {b : S → Res Out} : ∀ (n k : Nat) (s : S), whileGo c b n s ≠ .stuck → whileGo c b (n + k) s = whileGo c b n s
  | 0, _, _, h => absurd rfl h
  | n + 1, k, s, h => by
    have e : n + 1 + k = (n + k) + 1 := by omega
    rw [e]
    unfold whileGo at h ⊢
    cases hc : c s with
    | ok q s1 =>
      rw [hc] at h
      simp only [Res.bind_ok] at h ⊢
      by_cases hq : q = true
      · rw [if_pos hq] at h ⊢
        rw [if_pos hq]
        cases hb : b s1 with
        | ok o s2 =>
          rw [hb] at h
          cases o with
          | nx => exact whileGo_mono n k s2 h
          | ct => exact whileGo_mono n k s2 h
          | bk => rfl
          | rt d => rfl
        | exc _ _ _ => rfl
        | stuck => rfl
      · rw [if_neg hq, if_neg hq]
    | exc _ _ _ => rfl
    | stuck => rfl
theorem mWhile_eq {c : S → Res Bool} {b : S → Res Out} {n : Nat} {s : S} {r : Res Out} (h : whileGo c b n s = r) (hr : r ≠ .stuck) : mWhile c b s = r := by
  have hx : ∃ n, whileGo c b n s ≠ .stuck := ⟨n, by rw [h]; exact hr⟩
  unfold mWhile
  rw [dif_pos hx]
  have hy := Classical.choose_spec hx
  rcases Nat.le_total n (Classical.choose hx) with z | z
  · obtain ⟨k, hk⟩ := Nat.exists_eq_add_of_le z
    rw [hk, whileGo_mono n k s (by rw [h]; exact hr)]; exact h
  · obtain ⟨k, hk⟩ := Nat.exists_eq_add_of_le z
    rw [← whileGo_mono _ k s hy, ← hk]; exact h
section
variable {X : Cx} {W : WX} {c : Expr} {body : List Stmt} {mc : S → Res Bool} {mb : S → Res Out} {pos : Pos}
theorem ms_while (hp : PassesOwn (model X.prog X.w) X.A X.env X.xe) (hc : MT X W c mc) (hb : MSs X W body mb) : MS X W (.While c body [] pos) (mWhile mc mb) := by
  refine ps_imp (ps_while hp hc hb) fun D σ H h => ?_
  obtain ⟨g, s, ok, h⟩ := h
  unfold mWhile at h
  split at h
  · rename_i hx
    refine ⟨fun m σ H => ∃ g s, Ok X.K g s σ H ∧ PostS X.K W g s H D (whileGo mc mb m s), ⟨_, g, s, ok, h⟩, ?_⟩
    rintro m σ H ⟨g, s, ok, h⟩
    cases m with
    | zero => exact h.elim
    | succ m =>
      unfold whileGo at h
      refine ⟨g, s, ok, (PostS.bind h).mono fun k g1 s1 H1 t1 k1 o1 h1 => ?_⟩
      cases k with
      | true =>
        rw [if_pos rfl] at h1
        show (if true = true then _ else _)
        rw [if_pos rfl]
        refine ⟨fun σ3 H3 => ∃ g3 s3, Ok X.K g3 s3 σ3 H3 ∧ PostS X.K W g3 s3 H3 D (whileGo mc mb m s3), fun σ3 H3 z => ⟨m, Nat.lt_succ_self _, z⟩, g1, s1, o1, ?_⟩
        cases e2 : mb s1 with
        | ok o s3 =>
          simp only [e2] at h1
          cases o with
          | nx => exact fun σ3 g3 H3 t3 o3 => ⟨g3, s3, o3, PostS.after h1 t3⟩
          | ct => exact fun σ3 g3 H3 t3 o3 => ⟨g3, s3, o3, PostS.after h1 t3⟩
          | bk => exact fun σ3 g3 H3 t3 o3 => h1 σ3 g3 H3 t3 o3
          | rt d => exact fun v σ3 g3 H3 t3 o3 rv => h1 v σ3 g3 H3 t3 o3 rv
        | exc c p s3 => simp only [e2] at h1; exact h1
        | stuck => simp only [e2] at h1; exact h1
      | false =>
        rw [if_neg (by decide)] at h1
        show (if false = true then _ else _)
        rw [if_neg (by decide)]
        exact PostS.nx h1 o1
  · exact h.elim
end
end MI
/-! # List comprehensions -/
namespace MI
open PySem L2

def wipeE (env : List Slot) : List Nat → List Slot
  | [] => env
  | v :: vs => (wipeE env vs).set v .none
def restE (e1 e2 : List Slot) : List Nat → List Slot
  | [] => e2
  | v :: vs => (restE e1 e2 vs).set v ((e1[v]?).getD .none)
theorem wipeE_len (env : List Slot) : ∀ vs, (wipeE env vs).length = env.length
  | [] => rfl
  | v :: vs => by rw [wipeE, List.length_set, wipeE_len env vs]
theorem restE_len (e1 e2 : List Slot) : ∀ vs, (restE e1 e2 vs).length = e2.length
  | [] => rfl
  | v :: vs => by rw [restE, List.length_set, restE_len e1 e2 vs]
theorem wipeE_get (env : List Slot) : ∀ (vs : List Nat) (i : Nat), (wipeE env vs)[i]? = if i ∈ vs then (env[i]?).map (fun _ => Slot.none) else env[i]?
  | [], i => by simp [wipeE]
  | v :: vs, i => by
    rw [wipeE]
    by_cases h : i = v
    · subst h
      simp only [List.mem_cons, true_or, if_true]
      by_cases hl : i < env.length
      · rw [List.getElem?_set_self (by rw [wipeE_len]; exact hl), List.getElem?_eq_getElem hl]; rfl
      · rw [List.getElem?_eq_none (by rw [List.length_set, wipeE_len]; omega), List.getElem?_eq_none (by omega)]; rfl
    · rw [List.getElem?_set_ne (Ne.symm h), wipeE_get env vs i]
      simp [h]
theorem restE_get (e1 e2 : List Slot) (hl : e1.length = e2.length) : ∀ (vs : List Nat) (i : Nat), (restE e1 e2 vs)[i]? = if i ∈ vs then e1[i]? else e2[i]?
  | [], i => by simp [restE]
  | v :: vs, i => by
    rw [restE]
    by_cases h : i = v
    · subst h
      simp only [List.mem_cons, true_or, if_true]
      by_cases hi : i < e1.length
      · rw [List.getElem?_set_self (by rw [restE_len]; omega), List.getElem?_eq_getElem hi]; rfl
      · rw [List.getElem?_eq_none (by rw [List.length_set, restE_len]; omega), List.getElem?_eq_none (by omega)]
    · rw [List.getElem?_set_ne (Ne.symm h), restE_get e1 e2 hl vs i]
      simp [h]
theorem wipe_get (σ : St) : ∀ (vs : List Nat) (i : Nat), (wipe σ vs)[i]? = if i ∈ vs then (σ[i]?).map (fun _ => none) else σ[i]?
  | [], i => by simp [wipe]
  | v :: vs, i => by
    rw [wipe]
    by_cases h : i = v
    · subst h
      simp only [List.mem_cons, true_or, if_true]
      by_cases hl : i < σ.length
      · rw [List.getElem?_set_self (by rw [wipe_length]; exact hl), List.getElem?_eq_getElem hl]; rfl
      · rw [List.getElem?_eq_none (by rw [List.length_set, wipe_length]; omega), List.getElem?_eq_none (by omega)]; rfl
    · rw [List.getElem?_set_ne (Ne.symm h), wipe_get σ vs i]
      simp [h]
theorem setAll_len : ∀ (is : List Nat) (vs : List V) (σ : St), (setAll σ is vs).length = σ.length
  | [], _, _ => by simp [setAll]
  | _ :: _, [], _ => by simp [setAll]
  | i :: is, v :: vs, σ => by rw [setAll, setAll_len is vs, List.length_set]
theorem setAll_get : ∀ (is : List Nat) (vs : List V) (σ : St) (i : Nat), i ∉ is → (setAll σ is vs)[i]? = σ[i]?
  | [], _, _, _, _ => by simp [setAll]
  | _ :: _, [], _, _, _ => by simp [setAll]
  | j :: is, v :: vs, σ, i, h => by
    rw [setAll, setAll_get is vs _ i (fun z => h (List.mem_cons_of_mem _ z)), List.getElem?_set_ne (fun z => h (by rw [z]; exact List.mem_cons_self))]
theorem wipe_setAll {σ : St} {is vs : List Nat} {ws : List V} (h : ∀ i ∈ is, i ∈ vs) : wipe (setAll (wipe σ vs) is ws) vs = wipe σ vs := by
  apply List.ext_getElem?
  intro i
  rw [wipe_get, wipe_get]
  by_cases hi : i ∈ vs
  · rw [if_pos hi, if_pos hi]
    have hl : (setAll (wipe σ vs) is ws).length = σ.length := by rw [setAll_len, wipe_length]
    by_cases hl2 : i < σ.length
    · rw [List.getElem?_eq_getElem (by rw [hl]; exact hl2), List.getElem?_eq_getElem hl2]; rfl
    · rw [List.getElem?_eq_none (by rw [hl]; omega), List.getElem?_eq_none (by omega)]
  · rw [if_neg hi, if_neg hi, setAll_get _ _ _ _ (fun z => hi (h i z)), wipe_get, if_neg hi]
theorem wipe_wipe {σ : St} {vs : List Nat} : wipe (wipe σ vs) vs = wipe σ vs := by
  have := wipe_setAll (σ := σ) (is := []) (vs := vs) (ws := []) (fun _ h => nomatch h)
  simpa [setAll] using this
def noOwn (env : List Slot) (vs : List Nat) : Bool := vs.all fun v => match env[v]? with
  | some (.own _) => false
  | _ => true
def wipeS (s : S) (vs : List Nat) : S := { s with env := wipeE s.env vs }
section
variable {K : PySem.W.Frag} {σ : St} {g : G} {s : S} {H : Hp}
theorem cellOf_wipe {vs : List Nat} {l : Loc} {o : MObj} (e : cellOf (wipeS s vs) l = some o) : cellOf s l = some o ∧ ∀ i, l = .sl i → i ∉ vs := by
  cases l with
  | gl n => exact ⟨e, fun i z => nomatch z⟩
  | sl j =>
    have e' : (match (wipeE s.env vs)[j]? with | some (.own o) => some o | _ => none) = some o := e
    rw [wipeE_get] at e'
    by_cases h : j ∈ vs
    · rw [if_pos h] at e'
      cases q : s.env[j]? with
      | none => rw [q] at e'; cases e'
      | some w => rw [q] at e'; cases e'
    · rw [if_neg h] at e'
      exact ⟨e', fun i z => by cases z; exact h⟩
theorem Ok.wipe {vs : List Nat} (ok : Ok K g s σ H) : Ok K g (wipeS s vs) (wipe σ vs) H := by
  refine ⟨ok.sub, fun l o e => ok.cell l o (cellOf_wipe e).1, fun l l' o o' e e' z => ok.inj l l' o o' (cellOf_wipe e).1 (cellOf_wipe e').1 z, fun i x e => ?_, ?_, ok.ng, fun a p => ?_⟩
  · have e' : (wipeE s.env vs)[i]? = some x := e
    rw [wipeE_get] at e'
    by_cases h : i ∈ vs
    · rw [if_pos h] at e'
      cases q : s.env[i]? with
      | none => rw [q] at e'; cases e'
      | some w => rw [q] at e'; cases e'; trivial
    · rw [if_neg h] at e'
      have := ok.env i x e'
      cases x with
      | none => trivial
      | val d => obtain ⟨v, q, r⟩ := this; exact ⟨v, by rw [wipe_get, if_neg h]; exact q, r⟩
      | own o => show (L2.wipe σ vs)[i]? = _; rw [wipe_get, if_neg h]; exact this
  · show (wipeE s.env vs).length = (L2.wipe σ vs).length
    rw [wipeE_len, wipe_length, ok.len]
  · obtain ⟨h1, h2, h3⟩ := ok.prot a p
    exact ⟨h1, h2, fun ⟨l, o, e, z⟩ => h3 ⟨l, o, (cellOf_wipe e).1, z⟩⟩
/-- back from the block: the block's own names are as they were -/
theorem Ok.rest {vs : List Nat} {g' : G} {s' : S} {H' : Hp} (ok : Ok K g s σ H) (n : noOwn s.env vs = true) (ok' : Ok K g' s' (L2.wipe σ vs) H') (l : GLe g g') :
    Ok K g' { s' with env := restE s.env s'.env vs } σ H' := by
  have hl : s.env.length = s'.env.length := by
    have h1 := ok.len
    have h2 := ok'.len
    rw [wipe_length] at h2
    omega
  have no : ∀ i ∈ vs, ∀ o, s.env[i]? ≠ some (.own o) := fun i hi o e => by
    have := List.all_eq_true.mp n i hi
    rw [e] at this
    cases this
  have cs : ∀ {l o}, cellOf { s' with env := restE s.env s'.env vs } l = some o → cellOf s' l = some o := by
    intro l o e
    cases l with
    | gl n => exact e
    | sl j =>
      have e' : (match (restE s.env s'.env vs)[j]? with | some (.own o) => some o | _ => none) = some o := e
      rw [restE_get _ _ hl] at e'
      by_cases h : j ∈ vs
      · rw [if_pos h] at e'
        split at e'
        · rename_i w q
          exact absurd q (no j h _)
        · cases e'
      · rw [if_neg h] at e'
        exact e'
  refine ⟨ok'.sub, fun l o e => ok'.cell l o (cs e), fun l l' o o' e e' z => ok'.inj l l' o o' (cs e) (cs e') z, fun i x e => ?_, ?_, ok'.ng, fun a p => ?_⟩
  · have e' : (restE s.env s'.env vs)[i]? = some x := e
    rw [restE_get _ _ hl] at e'
    by_cases h : i ∈ vs
    · rw [if_pos h] at e'
      have := ok.env i x e'
      cases x with
      | none => trivial
      | val d => obtain ⟨v, q, r⟩ := this; exact ⟨v, q, r.mono l⟩
      | own o => exact absurd e' (no i h o)
    · rw [if_neg h] at e'
      have := ok'.env i x e'
      cases x with
      | none => trivial
      | val d => obtain ⟨v, q, r⟩ := this; exact ⟨v, by rw [wipe_get, if_neg h] at q; exact q, r⟩
      | own o =>
        have q : (L2.wipe σ vs)[i]? = _ := this
        rw [wipe_get, if_neg h] at q
        exact q
  · show (restE s.env s'.env vs).length = σ.length
    rw [restE_len, ← hl]; exact ok.len
  · obtain ⟨h1, h2, h3⟩ := ok'.prot a p
    exact ⟨h1, h2, fun ⟨l, o, e, z⟩ => h3 ⟨l, o, cs e, z⟩⟩
end
def compGo (vs : List Nat) (t : D → S → Option S) (c : S → Res Bool) (e : S → Res D) : List D → List D → S → Option (List D × S)
  | [], acc, s => some (acc, s)
  | d :: ds, acc, s => match t d s with
    | none => none
    | some s1 => match c s1 with
      | .ok b s2 => if b = true then (match e s2 with
          | .ok y s3 => if acc.length < sizeLine then compGo vs t c e ds (acc ++ [y]) (wipeS s3 vs) else none
          | _ => none)
        else compGo vs t c e ds acc (wipeS s2 vs)
      | _ => none
def mComp (vs : List Nat) (it : S → Res (List D)) (t : D → S → Option S) (c : S → Res Bool) (e : M) : M := fun s => (it s).bind fun ds s1 => if noOwn s1.env vs = true then (match compGo vs t c (mLeak e) ds [] (wipeS s1 vs) with
  | some (acc, s2) => .ok (.new (.lst acc)) { s2 with env := restE s1.env s2.env vs }
  | none => .stuck) else .stuck
def mYes : S → Res Bool := fun s => .ok true s
abbrev W0 : WX := fun _ _ _ _ => False
abbrev Blk (X : Cx) (scope : Scope) (P : Cx → Prop) : Prop := ∀ (s : Shared) (H : Hp) (C : Addr) (cl : List (Str × Addr)) (fp : List Addr), P (X.blk s H scope (PySem.compEnvC scope cl C X.env) fp)
def MTs (X : Cx) (W : WX) (ifs : List Expr) (m : S → Res Bool) : Prop := PTs X ifs (tMT X.K W m)
theorem mts_nil {X : Cx} {W : WX} : MTs X W [] mYes := ⟨fun pins s σ H Q I ⟨g, t, ok, h⟩ => pts_nil.run pins s σ H Q I (PostE.done (W := W) h ok)⟩
theorem mts_one {X : Cx} {W : WX} {c : Expr} {m : S → Res Bool} (h : MT X W c m) : MTs X W [c] m := pts_one h
section
variable {X : Cx} {W : WX}
theorem tLc_of {vs is : List Nat} {it : S → Res (List D)} {gt : TG} {t : D → S → Option S} {mc : S → Res Bool} {me : M} {σ : St} {H : Hp} {Q : VK} {g : G} {s : S}
    (hgt : MGk X.K gt is t) (hsub : ∀ i ∈ is, i ∈ vs)
    (ok : Ok X.K g s σ H) (h : PostE X.K W σ g s H (kE X.K Q) (mComp vs it t mc me s)) :
    tLc (tMI X.K W it) gt (tMT X.K W0 mc) (tM X.K W0 me) vs σ H Q := by
  refine ⟨g, s, ok, (PostE.bind h).mono fun ds g1 s1 H1 t1 k1 o1 h1 J hJ D hD => ?_⟩
  split at h1
  · rename_i hno
    split at h1
    · rename_i acc0 s0 hgo
      -- the new list at D is held
      have ok2 := o1.grow (o := .lst []) hD
      have hold := ok2.hold (a := D) (u := .lst []) upd_same (o1.fnone hD) (o1.lnone hD)
      refine ⟨fun i m H' => m = ds.length - i ∧ i ≤ ds.length ∧ ∃ g' s' acc avs, Step (g1.hold D) (upd H1 D (.lst [])) (g'.wP (g1.hold D).P) (upd H' D (.lst [])) ∧ SlKeep g1 g' ∧ g'.P = (g1.hold D).P ∧ Ok X.K g' s' (wipe σ vs) H' ∧ H' D = some (.lst avs) ∧ RepL X.K g' avs acc ∧
        compGo vs t mc (mLeak me) (ds.drop i) acc s' = some (acc0, s0), ⟨ds.length, by simp, Nat.zero_le _, g1.hold D, wipeS s1 vs, [], [], ?_, SlKeep.refl _, rfl, hold.wipe, upd_same, .nil, by simpa using hgo⟩, ?_⟩
      · refine ⟨⟨Sub.refl _, Nat.le_refl _, fun _ _ => rfl⟩, rfl, fun b _ => ?_⟩
        rw [upd_upd]
      rintro i m H' ⟨rfl, hi, g', s', acc, avs, st, sk, pp, o', hD', racc, hg'⟩
      have lg : GLe g1 g' := ⟨st.le.F, st.le.ng, st.le.adr⟩
      have pD : g'.P D := by rw [pp]; exact .inr rfl
      obtain ⟨stp, go⟩ := hJ g' s' _ H' lg o'
      by_cases hlt : i < ds.length
      · obtain ⟨d, hd⟩ : ∃ d, ds[i]? = some d := ⟨_, List.getElem?_eq_getElem hlt⟩
        have hdrop : ds.drop i = d :: ds.drop (i + 1) := by
          rw [List.drop_eq_getElem_cons hlt]
          congr 1
          rw [List.getElem?_eq_getElem hlt] at hd
          exact Option.some.inj hd
        obtain ⟨go1, yl⟩ := go i d hd
        refine .inr ⟨go1, fun H3 => ∃ g3 s3 acc avs, Step (g1.hold D) (upd H1 D (.lst [])) (g3.wP (g1.hold D).P) (upd H3 D (.lst [])) ∧ SlKeep g1 g3 ∧ g3.P = (g1.hold D).P ∧ Ok X.K g3 s3 (wipe σ vs) H3 ∧ H3 D = some (.lst avs) ∧ RepL X.K g3 avs acc ∧
          compGo vs t mc (mLeak me) (ds.drop (i + 1)) acc s3 = some (acc0, s0), fun H3 z => ⟨ds.length - (i + 1), by omega, rfl, hlt, z⟩, fun x H2 y => ?_⟩
        obtain ⟨g2, t2, k2, o2, r2⟩ := yl x H2 y
        rw [hdrop] at hg'
        unfold compGo at hg'
        cases e : t d s' with
        | none => simp only [e] at hg'; cases hg'
        | some s2 =>
          simp only [e] at hg'
          obtain ⟨ws, o2', hQ⟩ := hgt g2 s' (wipe σ vs) H2 x d s2 o2 r2 e
          refine hQ _ ⟨wipe_setAll hsub, g2, s2, o2', ?_⟩
          -- what has been kept so far
          have acc2 : ∀ {g3 : G} {H3 : Hp}, Step g2 H2 g3 H3 → SlKeep g2 g3 → g3.P = (g1.hold D).P ∧ Step (g1.hold D) (upd H1 D (.lst [])) (g3.wP (g1.hold D).P) (upd H3 D (.lst [])) ∧ SlKeep g1 g3 ∧ H3 D = some (.lst avs) ∧ RepL X.K g3 avs acc := by
            intro g3 H3 t3 k3
            have tt := t2.trans t3
            have p3 : g3.P = (g1.hold D).P := tt.P.trans pp
            refine ⟨p3, ⟨⟨st.le.F.trans tt.le.F, Nat.le_trans st.le.ng tt.le.ng, fun n hn => (tt.le.adr n (Nat.lt_of_lt_of_le hn st.le.ng)).trans (st.le.adr n hn)⟩, rfl, fun b hb => ?_⟩, fun j => (k3 j).trans ((k2 j).trans (sk j)), (tt.keep D pD).trans hD', racc.mono tt.le⟩
            by_cases hbD : b = D
            · rw [hbD, upd_same, upd_same]
            · have q := st.keep b hb
              rw [upd_ne hbD, upd_ne hbD] at q ⊢
              exact (tt.keep b (by rw [pp]; exact hb)).trans q
          cases e2 : mc s2 with
          | ok b s3 =>
            simp only [e2] at hg'
            intro g3 H3 t3 k3 o3
            show (if b = true then _ else _)
            cases b with
            | true =>
              rw [if_pos rfl] at hg'
              rw [if_pos rfl]
              unfold mLeak at hg'
              refine ⟨g3, s3, o3, ?_⟩
              cases e3 : me s3 with
              | ok r s4 =>
                simp only [e3, Res.bind_ok] at hg'
                intro g4 H4 t4 k4 o4 v rv
                cases e4 : leak r s4 with
                | none => simp only [e4] at hg'; cases hg'
                | some pr =>
                  obtain ⟨y, s5⟩ := pr
                  simp only [e4] at hg'
                  obtain ⟨g5, t5, k5, o5, ry⟩ := leak_ok o4 rv e4
                  obtain ⟨p5, st5, sk5, hD5, ra5⟩ := acc2 ((t3.trans t4).trans t5) ((k3.trans k4).trans k5)
                  by_cases hz : acc.length < sizeLine
                  · rw [if_pos hz] at hg'
                    have pD5 : g5.P D := by rw [p5]; exact .inr rfl
                    obtain ⟨_, f5, l5⟩ := o5.prot D pD5
                    refine ⟨avs, hD5, by rw [ra5.length]; exact hz, g5, wipeS s5 vs, acc ++ [y], avs ++ [v], ?_, sk5, p5, ?_, upd_same, ra5.append (.one ry), hg'⟩
                    · rw [upd_upd]; exact st5
                    · -- the list at D grows: it is nobody's in the store
                      have ow := o5.wipe (vs := vs)
                      rw [show L2.wipe (setAll (L2.wipe σ vs) is ws) vs = L2.wipe σ vs from wipe_setAll hsub] at ow
                      refine ⟨fun b u e => ?_, fun l o e => ?_, ow.inj, ow.env, ow.len, ow.ng, fun b p => ?_⟩
                      · rw [upd_ne (fun z => by rw [z, f5] at e; cases e)]; exact ow.sub b u e
                      · obtain ⟨f, r⟩ := ow.cell l o e
                        exact ⟨f, r.mono (GLe.refl _) (upd_ne fun z => l5 ⟨l, o, (cellOf_wipe e).1, z⟩)⟩
                      · obtain ⟨h1, h2, h3⟩ := ow.prot b p
                        refine ⟨?_, h2, h3⟩
                        by_cases z : b = D
                        · exact ⟨_, by rw [z]; exact upd_same⟩
                        · rw [upd_ne z]; exact h1
                  · rw [if_neg hz] at hg'; cases hg'
              | exc c p s4 => simp only [e3, Res.bind_exc] at hg'; cases hg'
              | stuck => simp only [e3, Res.bind_stuck] at hg'; cases hg'
            | false =>
              rw [if_neg (by decide)] at hg'
              rw [if_neg (by decide)]
              obtain ⟨p5, st5, sk5, hD5, ra5⟩ := acc2 t3 k3
              have ow := o3.wipe (vs := vs)
              rw [show L2.wipe (setAll (L2.wipe σ vs) is ws) vs = L2.wipe σ vs from wipe_setAll hsub] at ow
              exact ⟨g3, wipeS s3 vs, acc, avs, st5, sk5, p5, ow, hD5, ra5, hg'⟩
          | exc c p s3 => simp only [e2] at hg'; cases hg'
          | stuck => simp only [e2] at hg'; cases hg'
      · have e : i = ds.length := by omega
        subst e
        refine .inl ⟨stp, ?_⟩
        rw [List.drop_length] at hg'
        cases hg'
        -- back: D is let go
        have ob := o'.unhold (g0 := g1) (a := D) pp
        obtain ⟨_, fD, lD⟩ := o'.prot D pD
        have npD : ¬ g1.P D := o1.pnone hD
        have obr := o1.rest hno ob (show GLe g1 (g'.wP g1.P) from ⟨lg.F, lg.ng, lg.adr⟩)
        refine h1 (g'.wP g1.P) H' ⟨⟨lg.F, lg.ng, lg.adr⟩, rfl, fun b hb => ?_⟩ sk obr (.ref D) ⟨D, rfl, fD, npD, fun ⟨l, o, e, z⟩ => lD ?_, avs, hD', racc.mono wP_le⟩
        · have hbD : b ≠ D := fun z => npD (z ▸ hb)
          have q := st.keep b (.inl hb)
          rw [upd_ne hbD, upd_ne hbD] at q
          exact q
        · -- a cell of the restored state is one of the block's
          cases l with
          | gl n => exact ⟨.gl n, o, e, z⟩
          | sl j =>
            have hl : s1.env.length = s0.env.length := by
              have h1 := o1.len
              have h2 := o'.len
              rw [wipe_length] at h2
              omega
            have e' : (match (restE s1.env s0.env vs)[j]? with | some (.own o) => some o | _ => none) = some o := e
            rw [restE_get _ _ hl] at e'
            by_cases hj : j ∈ vs
            · rw [if_pos hj] at e'
              split at e'
              · rename_i w q
                have := List.all_eq_true.mp hno j hj
                rw [q] at this
                cases this
              · cases e'
            · rw [if_neg hj] at e'
              exact ⟨.sl j, o, e', z⟩
    · exact h1.elim
  · exact h1.elim
variable {elt tg iter : Expr} {ifs : List Expr} {scope : Scope} {own : List (Str × Nat)} {pos : Pos} {it : S → Res (List D)} {gt : TG} {is : List Nat} {t : D → S → Option S} {mc : S → Res Bool} {me : M}
theorem me_comp (hc : X.calm = true) (hN : X.N.Nodup) (hi : MIt X W tg iter it) (ok : BlkOk X.N X.env.scope scope own) (hgk : MGk X.K gt is t) (hsub : ∀ i ∈ is, i ∈ own.map (·.2))
    (hg : Blk X scope fun Y => PG Y tg gt) (ht : Blk X scope fun Y => MTs Y W0 ifs mc) (he : Blk X scope fun Y => ME Y W0 elt me) (hs : ∀ x, foldedSetIterable iter X.env x = pure x := by intro _; rfl) :
    ME X W (.ListComp elt [⟨tg, iter, ifs, 0⟩] scope pos) (mComp (own.map (·.2)) it t mc me) := by
  have z := pe_lc (pos := pos) (tt := tMT X.K W0 mc) (te := tM X.K W0 me) hc hN hi ok (fun s H C cl fp => hg s H C cl fp) (fun s H C cl fp => ht s H C cl fp) (fun s H C cl fp => he s H C cl fp) hs
  refine pe_imp z fun σ H Q h => ?_
  obtain ⟨g, s, o, h⟩ := h
  exact tLc_of hgk hsub o h
/-- name = [..] on one line, the name a local -/
theorem ms_setComp {i : Nat} {y : Str} {py spos : Pos} (hc : X.calm = true) (hN : X.N.Nodup) (hi : MIt X W tg iter it) (ok : BlkOk X.N X.env.scope scope own) (hgk : MGk X.K gt is t) (hsub : ∀ i ∈ is, i ∈ own.map (·.2))
    (hg : Blk X scope fun Y => PG Y tg gt) (ht : Blk X scope fun Y => MTs Y W0 ifs mc) (he : Blk X scope fun Y => ME Y W0 elt me) (hy : X.N[i]? = some y := by rfl) (hyl : X.env.scope.names.lookup y = some .local := by rfl)
    (hsw : swapsWith (.ListComp elt [⟨tg, iter, ifs, 0⟩] scope pos) (some (.Name y py)) spos.line X.env = pure true := by exact sw_true rfl rfl rfl (by decide +kernel)) (hs : ∀ x, foldedSetIterable iter X.env x = pure x := by intro _; rfl) :
    MS X W (.Assign [.Name y py] (.ListComp elt [⟨tg, iter, ifs, 0⟩] scope pos) spos) (mSet i (mComp (own.map (·.2)) it t mc me)) := by
  have z := ps_setLc (tt := tMT X.K W0 mc) (te := tM X.K W0 me) hc hN hy hyl hsw hi ok (fun s H C cl fp => hg s H C cl fp) (fun s H C cl fp => ht s H C cl fp) (fun s H C cl fp => he s H C cl fp) hs
  refine ps_imp z fun D σ H h => ?_
  obtain ⟨g, s, o, h⟩ := h
  refine tLc_of hgk hsub o ((PostS.bind h).mono fun r g1 s1 H1 t1 k1 o1 h1 v rv => ?_)
  show D.nx (σ.set i (some v)) H1
  split at h1
  · rename_i s2 e2
    obtain ⟨g2, t2, o2⟩ := assign_ok o1 rv e2
    exact h1 _ g2 H1 t2 o2
  · exact h1.elim
end
end MI
/-! # Functions by name -/
namespace MI
open PySem PySem.Spec PyProof.Rows L2

/-- the name x stands for a def that keeps fm's promise -/
structure FnM (P : Program) (w : World) (K : PySem.W.Frag) (mg : Str → Option Value) (base : Heap) (k : Nat) (x : Str) (ps : List Str) (fm : Fm) : Prop where
  ex : ∃ f fd, FnOk P w K mg base (L2.CX P w) k f fd ps (spM K fm) ∧ mg x = some (.ref f) ∧ PySem.W.keepIn K (.ref f) = true ∧ Binds K fd ps [] ∧
    (∃ oc od osl, K.lookup f = some ⟨oc, od, .func fd, osl⟩) ∧ ∀ (s : Shared) (us : List Value), us.length = ps.length → BindsTo s fd ⟨us, []⟩ (ps.zip us)
/-- every parameter is given by place -/
def BindOk (x : Str) (args : Arguments) (body : List Stmt) (scope : Scope) (ps : List Str) : Prop :=
  ∀ (kV doc pm : Value) (an : Option Addr) (cdv ct : Value) (us : List Value), us.length = ps.length → bindArgs (PySem.W.fnOf x x args body scope .none kV doc pm an cdv ct) ⟨us, []⟩ = pure (ps.zip us)
/-- what the head says of a def by name -/
def DefM (K : PySem.W.Frag) (mg : Str → Option Value) (x : Str) (args : Arguments) (body : List Stmt) (scope : Scope) : Prop :=
  ∃ f fd, FunD K x x args body scope [] [] f fd ∧ mg x = some (.ref f)
section
variable {X : Cx} {W : WX} {e : Expr} {es : List Expr} {m : S → Res (List D)} {pos p : Pos} {k j : Nat} {ps : List Str} {fm : Fm} {x : Str}
theorem me_fn (F : FnM X.prog X.w X.K X.mg X.base k x ps fm) (hr : Room j X.A) (hj : k ≤ j) (hg : Gl X x) (tk : Takes X W)
    (ha : MA X W (e :: es) m) (hdb : (x == ("__debug__" : Str)) = false := by decide) (he : starEach (e :: es) X.env = (false, eval e X.env) :: starEach es X.env := by rfl) (hpl : (backTo pos (starEach es X.env)).any (·.1) = false := by rfl) :
    ME X W (.Call (.Name x p) (e :: es) [] pos) (mCall fm m) := by
  obtain ⟨f, fd, F1, hm, hk, hb, _⟩ := F.ex
  exact me_call F1 (hr.mono hj) hg hm hk hb tk ha hdb he hpl
end
abbrev wx (E : XK) : WX := fun cls d _ H => E cls d H
theorem takesC {P : Program} {w : World} {K : PySem.W.Frag} {mg : Str → Option Value} {base : Heap} {N : List Str} {qual : Str} {scope : Scope} {f : Addr} {cd : Value} {A : Around} {outer : List Env} {s : Shared} {H : Hp} {E : XK} :
    Takes (cxOf (L2.CX P w) P w K mg base N qual scope f cd A outer s H E) (wx E) := L2.takes_of rfl rfl rfl rfl
theorem takesB {X : Cx} : Takes X W0 := L2.takes0
theorem owns {P : Program} {w : World} {K : PySem.W.Frag} {mg : Str → Option Value} {base : Heap} {N : List Str} {qual : Str} {scope : Scope} {f : Addr} {cd : Value} {A : Around} {outer : List Env} {s : Shared} {H : Hp} {E : XK} {CX : CXT} :
    PassesOwn (model P w) (cxOf CX P w K mg base N qual scope f cd A outer s H E).A (cxOf CX P w K mg base N qual scope f cd A outer s H E).env (cxOf CX P w K mg base N qual scope f cd A outer s H E).xe :=
  passes_of (X := cxOf CX P w K mg base N qual scope f cd A outer s H E) (K := fun e s'' => CX outer H s E e s'') (E₁ := fun e' s'' => CX outer H s E e' s'') rfl
theorem mss_stuck {X : Cx} {W : WX} {st : List Stmt} : MSs X W st (fun _ => .stuck) := pss_imp pss_never fun D σ H ⟨g, s, ok, h⟩ => h
section
variable {P : Program} {w : World} {K : PySem.W.Frag} {mg : Str → Option Value} {base : Heap} {x : Str} {args : Arguments} {body : List Stmt} {scope : Scope} {N ps : List Str} {k : Nat} {m : S → Res Out}
theorem fnM (F : DefM K mg x args body scope) (Sc : FnScope N ps scope) (hN : ps.length ≤ N.length)
    (hB : BindOk x args body scope ps)
    (hbody : ∀ (f : Addr) (cdv : Value) (A : Around) (outer : List Env) (s : Shared) (H : Hp) (E : XK), Room k (A.deeper (envOfC x scope s.heap.objs.size f cdv)) →
      MSs (cxOf (L2.CX P w) P w K mg base N x scope f cdv A outer s H E) (wx E) body m) :
    FnM P w K mg base (k + 1) x ps (mDef ps.length N.length m) := by
  obtain ⟨f, fd, F1, hm⟩ := F
  refine ⟨f, fd, fn_mirror F1 Sc hN (fun cdv A outer s H E hr => hbody f cdv A outer s H E hr), hm, F1.kp, F1.bindsN hB, ?_, F1.bindsA hB⟩
  obtain ⟨oc, od, dV, kV, doc, pm, an, cdv, ct, osl, e, lk, _⟩ := F1.ex
  exact ⟨oc, od, osl, e ▸ lk⟩
end

/-! ### names of the module -/
section
variable {X : Cx} {W : WX} {x : Str} {pos : Pos}
def GInt (mg : Str → Option Value) (x : Str) (i : Int) : Prop := ∃ t, mg x = some (.int i t)
def GStr (mg : Str → Option Value) (x : Str) (z : Str) : Prop := ∃ t, mg x = some (.str z t)
/-- a tuple of the module, for good -/
def GTup (K : PySem.W.Frag) (mg : Str → Option Value) (x : Str) (vs : List V) : Prop := ∃ a, mg x = some (.ref a) ∧ ∀ H, SqT K H a vs
theorem me_gint {i : Int} (h : GInt X.mg x i) (hg : Gl X x) (hd : (x == ("__debug__" : Str)) = false := by decide) : ME X W (.Name x pos) (mC (.int i)) := by
  obtain ⟨t, e⟩ := h
  exact me_glob hg e (v := .int i) ⟨t, rfl⟩ (fun g => .int i) hd
theorem me_gstr {z : Str} (h : GStr X.mg x z) (hg : Gl X x) (hd : (x == ("__debug__" : Str)) = false := by decide) : ME X W (.Name x pos) (mC (.str z)) := by
  obtain ⟨t, e⟩ := h
  exact me_glob hg e (v := .str z) ⟨t, rfl⟩ (fun g => .str z) hd
theorem me_gtup {vs : List V} {ds : List D} (h : GTup X.K X.mg x vs) (r : ∀ g, RepL X.K g vs ds) (hg : Gl X x) (hd : (x == ("__debug__" : Str)) = false := by decide) : ME X W (.Name x pos) (mC (.tup ds)) := by
  obtain ⟨a, e, q⟩ := h
  exact me_glob hg e (v := .ref a) rfl (fun g => .tup (q g.F) (r g)) hd
end
/-- a block's own names, seen by a test -/
def blkB (N : List Str) (sc scope : Scope) (own : List (Str × Nat)) : Bool :=
  decide (scope.kind = .function) && (decide (∀ y ∈ scope.names, scope.names.lookup y.1 = some y.2) && (decide (∀ p ∈ own, N[p.2]? = some p.1) &&
    (decide (∀ y ∈ scope.names, y.2 = .free → sc.names.lookup y.1 = some .cell ∨ sc.names.lookup y.1 = some .free) &&
      decide (∀ y ∈ scope.names, y.2 = .local ∨ y.2 = .cell → y.1 ∈ own.map (·.1) ∨ y.1 ∉ N))))
theorem blk_of {N : List Str} {sc scope : Scope} {own : List (Str × Nat)} (h : blkB N sc scope own = true) : BlkOk N sc scope own := by
  unfold blkB at h
  simp only [Bool.and_eq_true, decide_eq_true_eq] at h
  obtain ⟨h1, h2, h3, h4, h5⟩ := h
  exact ⟨h1, h2, h3, h4, h5⟩
def scB (N P : List Str) (sc : Scope) : Bool :=
  decide (sc.kind = .function) && (!sc.isCoroutine && (!sc.isGenerator && (decide N.Nodup && (decide (N.take P.length = P) && (decide (∀ x ∈ P, sc.names.lookup x = some .local ∨ sc.names.lookup x = some .cell) && decide (∀ y ∈ sc.names, y.2 ≠ .free))))))
theorem sc_of {N P : List Str} {sc : Scope} (h : scB N P sc = true) : FnScope N P sc := by
  unfold scB at h
  simp only [Bool.and_eq_true, decide_eq_true_eq, Bool.not_eq_true'] at h
  obtain ⟨h1, h2, h3, h4, h5, h6, h7⟩ := h
  exact ⟨h1, h2, h3, h4, h5, h6, h7⟩
end MI
/-! # Repetition, stores at a place, shared objects -/
namespace MI
open PySem PySem.Spec PyProof.Rows L2

/-! ### a tuple once, or an empty one: the same object -/
theorem tuple_mul_same (l : Addr) (items : Array Value) (n : Nat) (dd : Option Addr) (sl : Array (Option Value)) (x : Int) (u : Tok) (c0 : (decide (x < -(2 ^ 63)) || decide (x ≥ 2 ^ 63)) = false) (c1 : (items.isEmpty || x == 1) = true) :
    Meets (Builtin.«tuple.__mul__» ⟨[.ref l, .int x u], []⟩) (fun _ R s => s.heap.get? l = some { cls := .type "tuple", dict := dd, data := .seq items n, slots := sl } ∧ R (.ok (.ret (Value.ref l))) s) :=
  .of_wp fun prog w A R s h => by
    obtain ⟨hp, g, d, tk, os⟩ := s
    obtain ⟨hl, h⟩ := h
    have f1 := AutoSeq1.idx_int
    wp_walk using wpAny_loadPart' hl
    repeat (first
      | (refine wpAny_ite_false (decide_eq_false (by rw [c0]; exact Bool.false_ne_true)) ?_; wp_walk using wpAny_loadPart' hl)
      | (refine wpAny_ite_true (decide_eq_true c1) ?_; wp_walk using wpAny_loadPart' hl))
    all_goals exact ⟨_, rfl, h⟩
def rSameT (K : PySem.W.Frag) : R2 := fun x y H Q => ∃ l k xs, x = .ref l ∧ y = .int k ∧ SqT K H l xs ∧ (xs = [] ∨ k = 1) ∧ -(2 ^ 63) ≤ k ∧ k < 2 ^ 63 ∧ Q x H

section
variable {X : Cx} {W : WX}
theorem op_sameT : OpR X (binaryOp .Mult) (rSameT X.K) := by
  intro pins s σ H x y v u Q I rx ry h
  obtain ⟨l, k, xs, rfl, rfl, hT, hone, h1, h2, q⟩ := h
  cases rx
  obtain ⟨t, rfl⟩ := ry
  obtain ⟨its, r, ⟨⟨cls, dd, data, sl⟩, ho, hc, n, hd⟩, hs⟩ := I.tuple hT
  simp only at hc hd
  subst hc hd
  have same : (its.toArray.isEmpty || k == 1) = true := by
    rcases hone with z | z
    · subst z
      cases r
      rfl
    · subst z
      simp
  have inr : (decide (k < -(2 ^ 63)) || decide (k ≥ 2 ^ 63)) = false := by
    have a : ¬ k < -(2 ^ 63) := by omega
    have b : ¬ k ≥ 2 ^ 63 := by omega
    simp only [decide_eq_false a, decide_eq_false b, Bool.or_self]
  refine wpAny_binaryOp_repeat_ref (T := "tuple") (U := "int") (by decide) ⟨_, ho, rfl⟩ (fun s' => typeIs_int s' k t) noFill_tuple_mul F.fills_int_mul F.slot_int_rmul repeat_tuple F.slot_int_index.lookup ?_
  refine call_meets F.slot_int_rmul (typeIs_int s k t) F.entry_int_rmul (F.args_int_rmul_2 _ _) (int_rmul_tuple k t l its.toArray n dd sl) ⟨ho, rfl, ⟨_, ho, rfl⟩, ?_⟩
  exact call_meets F.slot_tuple_mul ⟨_, ho, rfl⟩ F.entry_tuple_mul (F.args_tuple_mul_2 _ _) (tuple_mul_same l its.toArray n dd sl k t inr same) ⟨ho, ⟨.ref l, H, I, rfl, q⟩⟩
/-- a text repeated -/
def repS (x : Str) (n : Int) : Str := if n < 1 then Str.empty else if (n == 1 || x.length == 0) = true then x else ⟨(List.replicate n.toNat x.cps).foldl (· ++ ·) #[]⟩
def rRepS : R2 := fun x y H Q => ∃ (z : Str) (k : Int), x = .str z ∧ y = .int k ∧ -1000 ≤ k ∧ k ≤ 1000 ∧ z.length ≤ 1000 ∧ Q (.str (repS z k)) H
theorem op_repS : OpR X (binaryOp .Mult) rRepS := by
  intro pins s σ H x y v u Q I rx ry h
  obtain ⟨z, k, rfl, rfl, h1, h2, hz, q⟩ := h
  obtain ⟨t, rfl⟩ := rx
  obtain ⟨t', rfl⟩ := ry
  refine PySem.P.mul_str ?_ (fun c1 _ => ?_) (fun c1 _ => ?_) ?_
  · have a : ¬ k < -(2 ^ 63) := by omega
    have b : ¬ k ≥ 2 ^ 63 := by omega
    simp only [decide_eq_false a, decide_eq_false b, Bool.or_self]
  · have k1 : 1 ≤ k := by omega
    have a1 : (1000 : Int) ≤ (2 ^ 63 - 1) / k := by
      rw [Int.le_ediv_iff_mul_le (by omega)]
      omega
    omega
  · have a1 : z.length * k.toNat ≤ 1000 * 1000 := Nat.mul_le_mul hz (by omega)
    have : ¬ (z.length * k.toNat > sizeLine) := by rw [sizeLine_eq]; omega
    exact decide_eq_false this
  · unfold repS at q
    split
    · rename_i c
      rw [if_pos c] at q
      exact ⟨by rw [sizeLine_eq]; decide, .str Str.empty, H, I.tok _, ⟨_, rfl⟩, q⟩
    · rename_i c
      rw [if_neg c] at q
      split
      · rename_i c2
        rw [if_pos c2] at q
        exact ⟨.str z, H, I, ⟨_, rfl⟩, q⟩
      · rename_i c2
        rw [if_neg c2] at q
        refine ⟨?_, .str _, H, I.tok _, ⟨_, rfl⟩, q⟩
        have key : ∀ (m : Nat) (acc : Array Nat), ((List.replicate m z.cps).foldl (· ++ ·) acc).size = acc.size + m * z.cps.size := by
          intro m
          induction m with
          | zero => intro acc; simp
          | succ m ih => intro acc; rw [List.replicate_succ, List.foldl_cons, ih, Array.size_append, Nat.succ_mul]; omega
        show ((List.replicate k.toNat z.cps).foldl (· ++ ·) #[]).size ≤ sizeLine
        rw [key]
        have a1 : k.toNat * z.cps.size ≤ 1000 * 1000 := Nat.mul_le_mul (by omega) hz
        rw [sizeLine_eq]
        simp
        omega
def opMulT : S → RV → RV → Res RV := fun s a b => match asTup a, asInt b with
  | some xs, some k => if (xs.isEmpty || k == 1) = true then (if -(2 ^ 63) ≤ k ∧ k < 2 ^ 63 then .ok (.d (.tup xs)) s else .stuck)
    else if 2 ≤ k ∧ k ≤ 1000 ∧ xs.length ≤ 1000 then .ok (.d (.tup (List.replicate k.toNat xs).flatten)) s else .stuck
  | _, _ => .stuck
def opMulS : S → RV → RV → Res RV := fun s a b => match asStr a, asInt b with
  | some x, some k => if -1000 ≤ k ∧ k ≤ 1000 ∧ x.length ≤ 1000 then .ok (.d (.str (repS x k))) s else .stuck
  | _, _ => .stuck
def opMulL : S → RV → RV → Res RV := fun s a b => match asLst s a, asInt b with
  | some xs, some k => if -(2 ^ 63) ≤ k ∧ k < 2 ^ 63 ∧ xs.length * k.toNat ≤ sizeLine then .ok (.new (.lst (List.replicate k.toNat xs).flatten)) s else .stuck
  | _, _ => .stuck
theorem RepL.rep {K : PySem.W.Frag} {g : G} {vs : List V} {ds : List D} (r : RepL K g vs ds) : ∀ k : Nat, RepL K g (List.replicate k vs).flatten (List.replicate k ds).flatten
  | 0 => .nil
  | k + 1 => by
    rw [List.replicate_succ, List.replicate_succ, List.flatten_cons, List.flatten_cons]
    exact r.append (r.rep k)
theorem os_mulT : OpS X W (fun x y H Q => rSameT X.K x y H Q ∨ rRepT X.K x y H Q) opMulT := by
  intro σ g s H Q x y ra rb ok rx ry nn q
  unfold opMulT at q
  split at q
  · rename_i xs k e1 e2
    obtain ⟨a, vs, rfl, h1, r1⟩ := asTup_ok ok rx e1
    have e := asInt_ok ry e2
    subst e
    split at q
    · rename_i c
      split at q
      · rename_i hk
        refine .inl ⟨a, k, vs, rfl, rfl, h1, ?_, hk.1, hk.2, kE_d q ok ?_⟩
        · simp only [Bool.or_eq_true, List.isEmpty_iff, beq_iff_eq] at c
          rcases c with c | c
          · exact .inl ((RepL.nil_iff r1).mpr c)
          · exact .inr c
        · cases ra with
          | d w =>
            cases w <;> first | cases e1
            exact rx
          | «at» _ => cases e1
          | new _ => cases e1
      · exact q.elim
    · rename_i c
      split at q
      · rename_i hk
        refine .inr ⟨a, k, vs, rfl, rfl, h1, fun z => ?_, hk.1, hk.2.1, by rw [r1.length]; exact hk.2.2, fun p hp => kE_tup q ok hp (r1.rep _)⟩
        have := (RepL.nil_iff r1).mp z
        subst this
        exact c rfl
      · exact q.elim
  · exact q.elim
theorem os_mulS : OpS X W rRepS opMulS := by
  intro σ g s H Q x y ra rb ok rx ry nn q
  unfold opMulS at q
  split at q
  · rename_i z k e1 e2
    split at q
    · rename_i h
      exact ⟨z, k, asStr_ok rx e1, asInt_ok ry e2, h.1, h.2.1, h.2.2, kE_d q ok (.str _)⟩
    · exact q.elim
  · exact q.elim
theorem os_mulL : OpS X W rRep opMulL := by
  intro σ g s H Q x y ra rb ok rx ry nn q
  unfold opMulL at q
  split at q
  · rename_i xs k e1 e2
    obtain ⟨a, vs, rfl, h1, r1⟩ := asLst_ok ok rx e1
    have e := asInt_ok ry e2
    subst e
    split at q
    · rename_i h
      exact ⟨a, k, vs, rfl, rfl, h1, h.1, h.2.1, by rw [r1.length]; exact h.2.2, fun p hp => kE_new q ok hp ⟨_, upd_same, r1.rep _⟩⟩
    · exact q.elim
  · exact q.elim
def opMul := orF opMulI (orF opMulT (orF opMulS opMulL))
variable {a b o i e : Expr} {ma mb mo mi me : M} {pos pos' apos cpos : Pos}
theorem me_mul (ha : ME X W a ma) (hb : ME X W b mb) : ME X W (.BinOp a .Mult b pos) (mBin opMul ma mb) :=
  me_bin (op_mul2.or ((op_sameT.or op_repT).or (op_repS.or op_rep))) (os_mulI.or (os_mulT.or (os_mulS.or os_mulL))) ha hb
end

/-! ### a new object comes into the shared store -/
def mAlloc (m : M) : M := fun s => (m s).bind fun r s1 => match r with
  | .new o => .ok (.d (.ref s1.gl.length)) { s1 with gl := s1.gl ++ [o] }
  | _ => .stuck
section
variable {K : PySem.W.Frag} {W : WX} {σ : L2.St} {g : G} {s : S} {H : Hp}
def G.add (g : G) (a : Addr) : G := { g with adr := fun l => if l = .gl g.ng then a else g.adr l, ng := g.ng + 1 }
theorem add_le {a : Addr} : GLe g (g.add a) := ⟨Sub.refl _, Nat.le_succ _, fun n h => if_neg fun z => by cases z; exact Nat.lt_irrefl _ h⟩
theorem Ok.add {a : Addr} {o : MObj} (ok : Ok K g s σ H) (n : g.F a = none) (np : ¬ g.P a) (nl : ¬ Live g s a) (q : ObjRep K g H a o) :
    Ok K (g.add a) { s with gl := s.gl ++ [o] } σ H := by
  have cs : ∀ l w, cellOf { s with gl := s.gl ++ [o] } l = some w → (l = .gl g.ng ∧ w = o) ∨ (l ≠ .gl g.ng ∧ cellOf s l = some w) := by
    intro l w e
    cases l with
    | sl i => exact .inr ⟨(fun z => nomatch z), e⟩
    | gl m =>
      have e' : (s.gl ++ [o])[m]? = some w := e
      by_cases h : m < s.gl.length
      · rw [List.getElem?_append_left h] at e'
        exact .inr ⟨fun z => by cases z; have := ok.ng; omega, e'⟩
      · rw [List.getElem?_append_right (by omega)] at e'
        have hm : m - s.gl.length = 0 := by
          cases hq : m - s.gl.length with
          | zero => rfl
          | succ z => rw [hq] at e'; cases e'
        rw [hm] at e'
        cases e'
        exact .inl ⟨by rw [ok.ng]; exact congrArg Loc.gl (by omega), rfl⟩
  have a0 : (g.add a).adr (.gl g.ng) = a := if_pos rfl
  have a1 : ∀ l, l ≠ .gl g.ng → (g.add a).adr l = g.adr l := fun l h => if_neg h
  have ne : ∀ l w, cellOf s l = some w → g.adr l ≠ a := fun l w h z => nl ⟨l, w, h, z⟩
  refine ⟨ok.sub, fun l w e => ?_, fun l l' w w' e e' z => ?_, fun i x e => (ok.env i x e).mono add_le (fun i => a1 _ (fun z => nomatch z)), ok.len, ?_, fun b p => ?_⟩
  · rcases cs l w e with ⟨rfl, rfl⟩ | ⟨h, e⟩
    · rw [a0]; exact ⟨n, q.mono add_le rfl⟩
    · rw [a1 l h]
      obtain ⟨f, r⟩ := ok.cell l w e
      exact ⟨f, r.mono add_le rfl⟩
  · rcases cs l w e with ⟨e1, _⟩ | ⟨h, en⟩
    · rcases cs l' w' e' with ⟨e2, _⟩ | ⟨h', en'⟩
      · exact e1.trans e2.symm
      · rw [e1, a0, a1 l' h'] at z
        exact absurd z.symm (ne l' w' en')
    · rcases cs l' w' e' with ⟨e2, _⟩ | ⟨h', en'⟩
      · rw [e2, a0, a1 l h] at z
        exact absurd z (ne l w en)
      · rw [a1 l h, a1 l' h'] at z
        exact ok.inj l l' w w' en en' z
  · show g.ng + 1 = (s.gl ++ [o]).length
    rw [List.length_append, ok.ng]; rfl
  · obtain ⟨h1, h2, h3⟩ := ok.prot b p
    refine ⟨h1, h2, fun ⟨l, w, e, z⟩ => ?_⟩
    rcases cs l w e with ⟨rfl, rfl⟩ | ⟨h, e⟩
    · rw [a0] at z
      exact np (z ▸ p)
    · rw [a1 l h] at z
      exact h3 ⟨l, w, e, z⟩
end
section
variable {X : Cx} {W : WX} {a b o i e : Expr} {ma mb mo mi me : M} {pos pos' apos cpos : Pos}
theorem me_alloc (h : ME X W e me) : ME X W e (mAlloc me) := by
  refine pe_imp h fun σ H Q ⟨g, s, ok, h⟩ => ?_
  refine ⟨g, s, ok, (PostE.bind h).mono fun r g1 s1 H1 t1 k1 o1 h1 v rv => ?_⟩
  cases r with
  | d x => exact h1.elim
  | «at» j => exact h1.elim
  | new w =>
    obtain ⟨p, rfl, n, np, nl, q⟩ := rv
    have o2 := o1.add n np nl q
    refine h1 (g1.add p) H1 ⟨add_le, rfl, fun _ _ => rfl⟩ (fun j => show (if Loc.sl j = Loc.gl g1.ng then p else g1.adr (.sl j)) = g1.adr (.sl j) from if_neg (by intro z; cases z)) o2 _ ?_
    have := Rep.ref (K := X.K) (g := g1.add p) g1.ng (Nat.lt_succ_self _)
    rw [show (g1.add p).adr (.gl g1.ng) = p from if_pos rfl] at this
    rw [← o1.ng]
    exact this

/-! ### xs.pop(i) -/
def fPopAt : List D → D → Option (D × List D) := fun xs d => match d with
  | .int i => if -(2 ^ 63) ≤ i ∧ i < 2 ^ 63 then (match seqIndex? i xs.length with
    | some k => (match xs[k]? with
      | some y => some (y, xs.eraseIdx k)
      | none => none)
    | none => none) else none
  | _ => none
theorem me_popAt (ho : ME X W o mo) (ha : ME X W a ma) (hbase : attributeBase o "pop" X.env (eval o X.env) = eval o X.env := by rfl)
    (hfew : ((backTo cpos (starEach [a] X.env)).all (fun x => !x.1) && (backToKw cpos (keywordEach [] X.env)).all (fun x => x.1.isSome)
      && decide ([a].length + ([] : List Keyword).length + (if ([] : List Keyword).isEmpty then 0 else 1) < 30)) = true := by rfl)
    (hline : (apos.endLine == cpos.line) = true := by rfl) (hs : starEach [a] X.env = (false, eval a X.env) :: starEach [] X.env := by rfl) :
    ME X W (.Call (.Attribute o "pop" apos) [a] [] cpos) (mLm1 fPopAt mo ma) := by
  have z := pe_bm PySem.F.plainAttrs_list PySem.F.slot_list_pop PySem.F.type_list_pop mt_popAt ho (pa_cons ha pa_nil hs) hbase hfew hline hs
  refine pe_imp z fun σ H Q h => ?_
  obtain ⟨g, s, ok, h⟩ := h
  refine mLm1_of (fun g l vs xs y d x ys H Q rvs ry hl e q => ?_) ok h
  clear h
  obtain ⟨i, rfl⟩ : ∃ i, d = .int i := by
    cases d <;> first | exact ⟨_, rfl⟩ | (exact absurd e (by simp [fPopAt]))
  cases ry
  have e : (if -(2 ^ 63) ≤ i ∧ i < 2 ^ 63 then (match seqIndex? i xs.length with
    | some k => (match xs[k]? with
      | some y => some (y, xs.eraseIdx k)
      | none => none)
    | none => none) else none) = some (x, ys) := e
  split at e
  · rename_i hi
    split at e
    · rename_i k ek
      split at e
      · rename_i w ew
        cases e
        obtain ⟨u, hu, ru⟩ := rvs.get ew
        exact ⟨l, vs, i, k, u, rfl, rfl, hl, hi.1, hi.2, by rw [rvs.length]; exact ek, hu, q u _ ru (rvs.eraseIdx k)⟩
      · cases e
    · cases e
  · cases e

/-! ### o[i] = e -/
def mSetIx (v o i : M) : S → Res Out := fun s => (mLeak v s).bind fun d s1 => (o s1).bind fun r s2 => match locOf r with
  | some l => (match cellOf s2 l with
    | some _ => (mLeak i s2).bind fun k s3 => (match cellOf s3 l, k with
      | some (.lst xs), .int k => (match ixN xs.length k with
        | some j => .ok .nx (setCell s3 l (.lst (xs.set j d)))
        | none => .stuck)
      | _, _ => .stuck)
    | _ => .stuck)
  | none => .stuck
theorem loc_held {K : PySem.W.Frag} {σ : L2.St} {g g' : G} {s : S} {H H' : Hp} {l : Loc} {o : MObj} (ok : Ok K g s σ H) (e : cellOf s l = some o) (t : Step g H g' H') (k : SlKeep g g') : g'.adr l = g.adr l := by
  cases l with
  | sl i => exact k i
  | gl n => exact t.le.adr n (by rw [ok.ng]; exact gl_cell e)
theorem ms_setIx (hv : ME X W e me) (ho : ME X W o mo) (hi : ME X W i mi)
    (hs : swapsWithSole [.Subscript o i pos'] e pos.line X.env = pure false := by rfl) (hw : swappedStores [.Subscript o i pos'] e X.env = pure none := by rfl)
    (h1 : (assignEach [.Subscript o i pos'] X.env).map (·.2) = [PySem.assign (.Subscript o i pos') X.env] := by rfl)
    (hg : ∀ v, PySem.assign (.Subscript o i pos') X.env v = (do
      let ov ← holding [v] (eval o X.env)
      let iv ← holding [v, ov] (eval i X.env)
      standAt pos'
      holding [v, ov, iv] (setItem ov iv v)
      release [v, ov, iv] []) := by intro _; rfl) : MS X W (.Assign [.Subscript o i pos'] e pos) (mSetIx me mo mi) := by
  have z := ps_asg hv (pg_sub ho hi set_list hg) hs hw h1
  refine ps_imp z fun D σ H h => ?_
  obtain ⟨g, s, ok, h⟩ := h
  refine tM_leak ok (k := fun d g1 s1 H1 => PostS X.K W g1 s1 H1 D ((mo s1).bind fun r s2 => match locOf r with
  | some l => (match cellOf s2 l with
    | some _ => (mLeak mi s2).bind fun k s3 => (match cellOf s3 l, k with
      | some (.lst xs), .int k => (match ixN xs.length k with
        | some j => .ok .nx (setCell s3 l (.lst (xs.set j d)))
        | none => .stuck)
      | _, _ => .stuck)
    | _ => .stuck)
  | none => .stuck)) (PostS.bind h) fun d g1 s1 H1 v t1 k1 o1 rv h1 => ?_
  refine ⟨g1, s1, o1, (PostS.bind h1).mono fun r g2 s2 H2 t2 k2 o2 h2 u ru => ?_⟩
  split at h2
  · rename_i l e1
    have hu := locOf_ok ru e1
    subst hu
    split at h2
    · rename_i w e2
      refine tM_leak o2 (PostS.bind h2) fun dk g3 s3 H3 y t3 k3 o3 ry h3 => ?_
      have el := loc_held o2 e2 t3 k3
      split at h3
      · rename_i xs k e3
        cases ry
        split at h3
        · rename_i j ej
          obtain ⟨vs, hvs, rvs⟩ := cell_lst o3 e3
          refine ⟨_, vs, k, j, rfl, rfl, by rw [← el]; exact hvs, by rw [rvs.length]; exact ej, ?_⟩
          rw [← el]
          obtain ⟨o4, t4⟩ := o3.change (o' := .lst (xs.set j d)) (ho := .lst (vs.set j v)) e3 ⟨_, upd_same, RepL.set ((rv.mono t2.le).mono t3.le) j rvs⟩
          exact h3 _ _ _ t4 o4
        · exact h3.elim
      · exact h3.elim
    · exact h2.elim
  · exact h2.elim
end
end MI
/-! # An own exception whose __init__ says super().__init__(text + str(place)), then self.f = place -/
namespace MI
open PySem PySem.Spec PyProof.Rows L2

/-- what the written part says of the class at C and of its __init__ -/
structure BbF (P : Program) (K : PySem.W.Frag) (C fI cda cc : Addr) (qual : Str) (params : Arguments) (body : List Stmt) (scope : Scope) (f : Str) : Prop where
  T : OexC K C
  iC : PySem.W.findIn K (.ref C) "__init__" = some (some (.ref fI))
  tI : PySem.W.typeIn K (.ref fI) = some (.type "function")
  fn : ∃ oc od doc pm an ct osl, K.lookup fI = some ⟨oc, od, .func (PySem.W.ksFn "__init__" qual params body scope .none .none doc pm an (.ref cda) ct cc), osl⟩
  hcd : PySem.W.codeIn K (.ref cda) qual = true
  code : ∃ ccl cdd vs ccs file tf, K.lookup cda = some ⟨ccl, cdd, .fields vs, ccs⟩ ∧ vs[2]? = some (.str file tf) ∧ ((P.main.file : Str) == file) = true
  cell : ∃ cl cld csl, K.lookup cc = some ⟨cl, cld, .cell (some (.ref C)), csl⟩
  cls : ∃ cd, PySem.W.clsIn K C = some cd
  sub : PySem.W.mroIn K C (.ref C) = some true
  sup : PySem.W.ks_superIn K C C "__init__" = some (some (.builtin "ValueError.__init__"))
  ve : PySem.W.subIn K (.ref C) (.type "ValueError") = some true
  any : PySem.W.nsIn K cStatics "thirdparty.any" = some none
  exi : ∃ bmB, ExcBaseFacts "ValueError" "ValueError.__new__" "ValueError.__init__" bmB ∧ PySem.W.excInitIn K C bmB "ValueError.__new__" = true
  fld : PySem.W.findIn K (.ref C) f = some none
/-- the def's own places -/
structure BbP where
  p0 : Pos
  p1 : Pos
  p2 : Pos
  p3 : Pos
  p4 : Pos
  p5 : Pos
  p6 : Pos
  p7 : Pos
  p8 : Pos
  p9 : Pos
  q0 : Pos
  q1 : Pos
  q2 : Pos
  q3 : Pos
  msg : Str
  j : Nat
def BbP.arg (b : BbP) : Expr := .BinOp (.Constant (.str b.msg) b.j b.p3) .Add (.Call (.Name "str" b.p4) [.Name "place" b.p5] [] b.p6) b.p7
def BbP.call (b : BbP) : Expr := .Call (.Attribute (.Call (.Name "super" b.p0) [] [] b.p1) "__init__" b.p2) [b.arg] [] b.p8
def BbP.set (b : BbP) (f : Str) : Stmt := .Assign [.Attribute (.Name "self" b.q0) f b.q1] (.Name "place" b.q2) b.q3
def BbP.body (b : BbP) (f : Str) : List Stmt := [.Expr b.call b.p9, b.set f]
/-- the def's own shape -/
structure BbS (P : Program) (params : Arguments) (scope : Scope) (b : BbP) (f : Str) (qual : Str) : Prop where
  msg : b.msg.length ≤ 1000
  ev : ∀ env : Env, env.scope = scope → ∃ pl, eval b.call env = (do
      let ov ← attributeBase (.Call (.Name "super" b.p0) [] [] b.p1) "__init__" env (eval (.Call (.Name "super" b.p0) [] [] b.p1) env)
      standAt b.p2.atName
      let (f, first) ← holding [ov] (getMethod ov "__init__" pl)
      callWith b.p8 f first (backTo b.p8 (starEach [b.arg] env)) [])
  st : ∀ env : Env, env.scope = scope → interactive env = false ∧ swapsWith b.call none b.p9.line env = pure false ∧ swapsWith (.Name "place" b.q2) (some (.Attribute (.Name "self" b.q0) f b.q1)) b.q3.line env = pure false
  sp : ∀ env : Env, env.scope = scope → starEach [b.arg] env = [(false, eval b.arg env)] ∧ starEach [.Name "place" b.p5] env = [(false, eval (.Name "place" b.p5) env)]
  par : ∃ ar, (params.posonlyargs ++ params.args).head? = some ar ∧ ar.arg = "self"
  bind : ∀ (doc pm : Value) (an : Option Addr) (cdv ct : Value) (cc : Addr) (u v : Value), bindArgs (PySem.W.ksFn "__init__" qual params (b.body f) scope .none .none doc pm an cdv ct cc) ⟨[u, v], []⟩ = pure [(("self" : Str), u), (("place" : Str), v)]
  kind : scope.kind = .function
  co : scope.isCoroutine = false
  gen : scope.isGenerator = false
  self : scope.names.lookup ("self" : Str) = some .local
  place : scope.names.lookup ("place" : Str) = some .local
  sup : scope.names.lookup ("super" : Str) = some .globalImplicit
  str : scope.names.lookup ("str" : Str) = some .globalImplicit
  cl : scope.names.lookup ("__class__" : Str) = some .free
  nocell : ∀ x ∈ scope.names, x.2 ≠ .cell
  top : (P.main.scope.names.lookup ("super" : Str)).isSome = false
section
open PySem.W PySem.Calls
variable {P : Program} {w : World} {K : Frag} {C fI cda cc : Addr} {qual f : Str} {params : Arguments} {b : BbP} {scope : Scope} {A : Around} {hp h1 : Heap} {g : Array GenState} {d : Drawn} {t : Nat} {os : OsState} {mg : Str → Option Value} {R : Result → Shared → Prop} {e t1 : Addr} {i : Int} {tk : Tok}
theorem log_small {n : Nat} (h : n ≤ 1000000) : n.log2 < 1920 := by
  by_cases z : n = 0
  · subst z; decide
  · rw [Nat.log2_lt z]
    exact Nat.lt_of_le_of_lt h (by decide +kernel)
theorem bb_run (B : BbF P K C fI cda cc qual params (b.body f) scope f) (S : BbS P params scope b f qual) (X : K.In hp) (hg : hp.Ns mainGlobals mg) (hb : ∃ mb, hp.Ns builtinsNs mb ∧ ∀ x : Str, x ≠ "__name__" → mb x = bootBuiltins x) (nl : hp.NoLimit)
    (hsup : mg "super" = none) (hstr : mg "str" = none) (hroom : A.depth < recursionLimit) (hi : i.natAbs ≤ 1000000) (kk : ∀ b o, hp.get? b = some o → h1.get? b = some o) (hsz : hp.objs.size ≤ e) (he : h1.get? e = some (excObj C t1 none .none))
    (hR : ∀ h2 tk' t' dx, (∀ b o, hp.get? b = some o → h2.get? b = some o) → hp.objs.size ≤ dx → dx ≠ e → h2.get? e = some ({ cls := .ref C, dict := some dx, data := .fields #[.ref t', .none, .none, .none, .bool false, .none] } : Obj) →
      h2.Ns1 dx (fun y => if y = f then some (.int i tk) else none) → R (.ok (.ret .none)) ⟨h2, g, d, tk', os⟩) :
    codeAny (model P w) A (.call (.ref fI) ⟨[.ref e, .int i tk], []⟩) R ⟨h1, g, d, t, os⟩ := by
  obtain ⟨oc, od, doc, pm, an, ct, osl, lk⟩ := B.fn
  obtain ⟨ccl, cdd, vs, ccs, file, tf, lc, lvs, lfile⟩ := B.code
  obtain ⟨cl, cld, csl, lcell⟩ := B.cell
  obtain ⟨cd, lcls⟩ := B.cls
  obtain ⟨bmB, FB, exi⟩ := B.exi
  obtain ⟨ar, har, hself⟩ := S.par
  have X1 : K.In h1 := X.keeps kk
  refine ks_codeAny_call_defAt (fd := ksFn "__init__" qual params (b.body f) scope .none .none doc pm an (.ref cda) ct cc) (body := b.body f) (binds := [("self", .ref e), ("place", .int i tk)]) hroom (kk _ _ (X _ _ lk)) rfl (nl.keeps kk) (codeRec_of X1 B.hcd) rfl
    (.of_eq (S.bind _ _ _ _ _ _ _ _)) S.nocell ?_ (fun h0 hns hk => ?_) S.co S.gen S.kind
  · intro y hy
    rcases List.mem_cons.mp hy with rfl | hy
    · exact S.self
    · rcases List.mem_cons.mp hy with rfl | hy
      · exact S.place
      · cases hy
  have hel : e < h1.objs.size := Heap.lt_size he
  have F0 : Fr hp h1.objs.size h0 (fun x => [(("self" : Str), Value.ref e), ("place", .int i tk)].reverse.lookup x) := ⟨hns, fun b o z => hk b o (kk b o z), Nat.le_of_lt (Nat.lt_of_le_of_lt hsz hel)⟩
  have hpe : hp.get? e = none := by
    cases z : hp.get? e with
    | none => rfl
    | some o => exact absurd (Nat.lt_of_lt_of_le (Heap.lt_size z) hsz) (Nat.lt_irrefl _)
  have N0 : News hp h1.objs.size h0 [(e, excObj C t1 none .none)] := fun p hpm => by
    rcases List.mem_cons.mp hpm with rfl | hpm
    · exact ⟨hk _ _ he, Nat.ne_of_lt hel, hpe⟩
    · cases hpm
  have hL : h1.objs.size ≠ e := fun z => Nat.ne_of_lt hel z.symm
  obtain ⟨mb, hbn, hbl⟩ := hb
  have K0 : K.In h0 := X.keeps F0.keep
  obtain ⟨oD, hD1, hD2⟩ : ∃ oD, h0.get? C = some oD ∧ oD.data = .cls cd := by
    unfold clsIn at lcls
    split at lcls
    · rename_i ho
      cases lcls
      exact ⟨_, K0 _ _ ho, rfl⟩
    · cases lcls
  obtain ⟨m, hm, mself, mplace⟩ : ∃ m : Str → Option Value, (fun x : Str => [(("self" : Str), Value.ref e), (("place" : Str), Value.int i tk)].reverse.lookup x) = m ∧ m "self" = some (.ref e) ∧ m "place" = some (.int i tk) := ⟨_, rfl, rfl, rfl⟩
  rw [hm] at F0 hns
  obtain ⟨env, henv⟩ : ∃ env, callEnv (ksFn "__init__" qual params (b.body f) scope .none .none doc pm an (.ref cda) ct cc) h1.objs.size fI = env := ⟨_, rfl⟩
  have esc : env.scope = scope := by rw [← henv]; rfl
  have elo : env.locals = h1.objs.size := by rw [← henv]; rfl
  have egl : env.globals = mainGlobals := by rw [← henv]; rfl
  have ebl : env.builtins = builtinsNs := by rw [← henv]; rfl
  have ecl : env.cells.lookup ("__class__" : Str) = some cc := by rw [← henv]; rfl
  have efu : env.func = some fI := by rw [← henv]; rfl
  have eco : env.code = .ref cda := by rw [← henv]; rfl
  show _root_.PySem.wpAt _ _ _ (execs [.Expr b.call b.p9, b.set f] (callEnv (ksFn "__init__" qual params (b.body f) scope .none .none doc pm an (.ref cda) ct cc) h1.objs.size fI)) _ _ _
  rw [henv]
  obtain ⟨pl, ev⟩ := S.ev env esc
  obtain ⟨st1, st2, st3⟩ := S.st env esc
  obtain ⟨sp1, sp2⟩ := S.sp env esc
  have kd : ∀ {x : Str} {k : NameKind}, scope.names.lookup x = some k → env.kindOf x = some k := fun {x k} z => by
    show env.scope.names.lookup x = some k
    rw [esc]; exact z
  have ekd : env.scope.kind = .function := by rw [esc]; exact S.kind
  refine ks_wpAt_execs_cons (ks_wpAt_Expr_any (ks_wpAt_MethodCall (ks_wpAt_super_base (kd S.sup) (kd S.cl) (by decide) efu (K0 _ _ lk) rfl har eco (K0 _ _ lc) rfl lvs lfile S.top ?_) ev) st1 st2)
  refine ks_loadName_global ekd (kd S.sup) (loadGlobal_builtin (by rw [egl]; exact hg.keeps F0.keep) hsup (by rw [ebl]; exact hbn.keeps F0.keep) ((hbl _ (by decide)).trans rfl) ⟨rfl, ?_⟩)
  refine wpAny_loadName_free ekd (kd S.cl) ecl ⟨_, K0 _ _ lcell, rfl⟩ ?_
  refine wpAny_loadName_local ekd (by rw [hself]; exact kd S.self) (by rw [elo]; exact F0.ns) (by rw [hself]; exact mself) ?_
  refine ks_wpAny_isType_cls hD1 hD2 ⟨rfl, ?_⟩
  have he0 : h0.get? e = some (excObj C t1 none .none) := (N0 _ List.mem_cons_self).1
  refine ks_wpAny_call_super hD1 hD2 he0 rfl (fun c z => by cases z) (looks_mroIn K0 B.sub) (fun h2 eso k2 => ?_)
  obtain ⟨F2, N2, lt2⟩ := ks_newsPush (s := ⟨h0, g, d, t + 2, os⟩) F0 N0 rfl eso k2
  refine kxs_method kxs_ValueError F2 X N2 List.mem_cons_self (InstAt.of_exc0 N2 (List.mem_cons_of_mem _ List.mem_cons_self)) B.any B.sup B.ve (by decide) (fun q h3 F3 N3 lt3 => ?_)
  -- the text
  have K3 : K.In h3 := X.keeps F3.keep
  refine kxs_callWith1 (i := "ValueError.__init__") (x := e) N3 List.mem_cons_self ?_ (by rw [sp1]; rfl) rfl
  rw [sp1]
  have ns3 : h3.Ns env.locals m := by rw [elo]; exact F3.ns
  have gl3 : h3.Ns env.globals mg := by rw [egl]; exact hg.keeps F3.keep
  have bl3 : h3.Ns env.builtins mb := by rw [ebl]; exact hbn.keeps F3.keep
  show wpAny _ _ (spliced [(false, _)]) _ _ _
  refine Calls.spliced_cons (wpAny_BinOp (Calls.Constant_str (wpAny_Call_Name_kw (Calls.Name_function_global ekd (kd S.str) (loadGlobal_builtin gl3 hstr bl3 ((hbl _ (by decide)).trans rfl) ?_) (by decide)))))
  refine PyProof.Rows.callWith_type1 (T := "str") ?_ (by rw [sp2]; rfl) rfl
  rw [sp2]
  refine Calls.spliced_cons (wpAny_Name (wpAny_loadName_local ekd (kd S.place) ns3 mplace (Calls.spliced_nil ?_)) (by decide))
  refine PySem.P.str_of_int (log_small hi) ?_
  refine PyProof.Rows.add_str (fun t' tk' => Calls.spliced_nil ⟨kxs_at N3 List.mem_cons_self, ?_⟩) ?_
  · refine kxs_call F3 X N3 FB exi List.mem_cons_self (.tail ?_ (.tail ?_ (.head (fun _ z => nomatch z)))) (by show 1 ≤ sizeLine; rw [sizeLine_eq]; decide) (fun t4 h4 F4 N4 lt4 => ?_)
    · exact Nat.ne_of_gt (lt3 _ (List.mem_cons_of_mem _ List.mem_cons_self))
    · exact Nat.ne_of_gt (lt2 _ List.mem_cons_self)
    · -- the field
      have K4 : K.In h4 := X.keeps F4.keep
      have ns4 : h4.Ns env.locals m := by rw [elo]; exact F4.ns
      have e4 : h4.get? e = some (excObj C t4 none .none) := (N4 (e, excObj C t4 none .none) (List.mem_cons_of_mem _ (List.mem_cons_of_mem _ (List.mem_cons_of_mem _ List.mem_cons_self)))).1
      obtain ⟨nm, qn, nN, bs, bm, sn, sub, ab, col, dd, k0, k1, k2', k3, k5, hC, hbm⟩ := B.T.cls
      have hcl : clsIn K C = some { name := nm, bases := bs, mro := .ref C :: bm, ns := nN, qualname := qn, hasDict := true, slotNames := sn, subclasses := sub, abstract := ab, collection := col, hasDel := false } := by
        unfold clsIn
        rw [hC] <;> rfl
      show _root_.PySem.wpAt _ _ _ (execs [b.set f] env) _ _ _
      refine ks_wpAt_execs_cons (ks_wpAt_Assign_Attr (wpAt_of_wpAny (wpAny_Name (wpAny_loadName_local ekd (kd S.place) ns4 mplace (wpAny_Name (wpAny_loadName_local ekd (kd S.self) ns4 mself ?_) (by decide))) (by decide))) st3)
      refine set_plain (ox := excObj C t4 none .none) (od := none) K4 ⟨e4, rfl, rfl, trivial⟩ B.T.sa ?_
      refine PySem.HandSPX.exc_osa K4 e4 hcl (show PySem.HandSPX.refsVE (.ref C :: bm) = true from hbm) rfl B.fld (fun h5 tk5 dx k5' dn dne hx hn => ?_)
      refine wpAt_of_wpAny (wpAny_execs_nil (hR h5 tk5 t4 dx (fun c o z => k5' c o (fun y => by rw [y, hpe] at z; cases z) (F4.keep c o z)) ?_ dne hx hn))
      exact Nat.le_trans (Nat.le_of_lt (Nat.lt_of_le_of_lt hsz (Heap.lt_size e4))) dn
  · have hmsg := S.msg
    have h1 := PyProof.Rows.len_str_of_int i
    rw [sizeLine_eq]
    show b.msg.length + (Str.ofString (toString i)).length ≤ _
    omega
end
end MI
/-! # raise, try -/
namespace MI
open PySem PySem.Spec PyProof.Rows L2

section
variable {X : Cx} {e : Expr} {te : TE} {x f : Str} {p pos : Pos} {C fI cda cc : Addr} {qual : Str} {params : Arguments} {b : BbP} {scope : Scope}
/-- C(e), e a place -/
theorem pmk_bb (B : BbF X.prog X.K C fI cda cc qual params (b.body f) scope f) (S : BbS X.prog params scope b f qual) (hsup : X.mg "super" = none) (hstr : X.mg "str" = none) (hr : Room 3 X.A) (hg : Gl X x) (hm : X.mg x = some (.ref C)) (ha : PE X e te)
    (hdb : (x == ("__debug__" : Str)) = false := by decide) (he : starEach [e] X.env = (false, eval e X.env) :: starEach [] X.env := by rfl) :
    PMk X (.Call (.Name x p) [e] [] pos) (fun σ H Q => tCons te tNil σ H fun vs H1 => ∃ i : Int, vs = [.int i] ∧ i.natAbs ≤ 1000000 ∧ ∀ dx, H1 dx = none → Q (.ref C) (some dx) (upd H1 dx (.xd [(f, .int i)]))) := by
  intro pins s σ H Q I h
  obtain ⟨nm, q, nN, bs, bm, sn, sub, ab, col, dd, k0, k1, k2, k3, k5, hC, hbm⟩ := B.T.cls
  refine wpAny_Call_Name_kw (ld_glob I hg hm ?_ hdb)
  refine PySem.W.callWith_K (h₀ := X.base) I.ok.mod.kin B.T.kC (thn ((pa_cons ha pa_nil he).run pos pins s σ H (fun vs H1 => ∃ i : Int, vs = [.int i] ∧ i.natAbs ≤ 1000000 ∧ ∀ dx, H1 dx = none → Q (.ref C) (some dx) (upd H1 dx (.xd [(f, .int i)]))) I h) fun us s1 ⟨vs, H1, I1, r1, i, ev, hi, q1⟩ => ⟨I1.kIn, ?_⟩) he (by rfl)
  · subst ev
    obtain ⟨u, rfl, ru⟩ := vals1 r1
    obtain ⟨tk, rfl⟩ := ru
    show wpAny _ _ (call (.ref C) [.int i tk]) _ _ _
    obtain ⟨hp, g, dr, tt, os⟩ := s1
    have hget : ((hp.push (PySem.W.kdv_tup [.int i tk])).push (PySem.HandSPX.excO C hp.objs.size)).get? (hp.objs.size + 1) = some (PySem.HandSPX.excO C hp.objs.size) := by heap_get
    have kk : ∀ c o, hp.get? c = some o → ((hp.push (PySem.W.kdv_tup [.int i tk])).push (PySem.HandSPX.excO C hp.objs.size)).get? c = some o := fun c o z => Heap.get?_push_of_some _ (Heap.get?_push_of_some _ z)
    refine wpAny_call (PySem.HandSPX.call_own F.excBase_ValueError (fun Y => PySem.HandSPX.refsVE_contains Y bm hbm) (I1.kIn _ _ hC) (PySem.W.looks_findIn I1.kIn B.iC) (fun self => PySem.W.bind_fn I1.kIn self B.tI) (by show 1 ≤ sizeLine; rw [sizeLine_eq]; decide) ?_)
    refine bb_run B S I1.kIn (I1.mod.glob.keeps I1.bk) ?_ I1.nolimit hsup hstr (Room.depth (hr.make C [.int i tk] [])) hi kk (Nat.le_succ _) hget (fun h2 tk' t' dx k2' dn dne hx hn => ?_)
    · obtain ⟨mb, z1, z2⟩ := I1.mod.blt
      exact ⟨mb, z1.keeps I1.bk, z2⟩
    · refine ⟨rfl, ?_⟩
      obtain ⟨G, g1, g2⟩ := restrict h2 fun c => decide (c ≠ hp.objs.size + 1)
      have gk : ∀ c, c ≠ hp.objs.size + 1 → G.get? c = h2.get? c := fun c hc => g1 c (decide_eq_true hc)
      have ge : G.get? (hp.objs.size + 1) = none := g2 _ (by simp)
      have lt : ∀ c o, hp.get? c = some o → c ≠ hp.objs.size + 1 := fun c o z => Nat.ne_of_lt (Nat.lt_succ_of_lt (Heap.lt_size z))
      have kG : ∀ c o, hp.get? c = some o → G.get? c = some o := fun c o z => (gk c (lt c o z)).trans (k2' c o z)
      have J := I1.laid (t' := tk') (a := dx) (o := .xd [(f, .int i)]) (h' := G) kG dn ?_
      · refine ⟨hp.objs.size + 1, _, _, ⟨G, g, dr, tk', os⟩, _, .ref C, some dx, rfl, J, fun c o z => ?_, ge, hx, ⟨rfl, rfl⟩, rfl, rfl, ?_, rfl, I1.bare, raises_own B.T.exC B.T.tyC, q1 dx (I1.hok.fresh dn)⟩
        · by_cases hc : c = hp.objs.size + 1
          · rw [hc, ge] at z; cases z
          · exact (gk c hc).symm.trans z
        · rw [upd_ne (Ne.symm dne)]
          exact I1.hok.fresh (Nat.le_succ _)
      · refine ⟨_, hn.at fun o z => (gk dx dne).trans z, fun y => ?_⟩
        show RelO (List.lookup y [(f, V.int i)]) (if y = f then some (.int i tk) else none)
        rw [lookup_put]
        by_cases hy : y = f
        · rw [if_pos hy, if_pos hy]; exact ⟨tk, rfl⟩
        · rw [if_neg hy, if_neg hy]; exact True.intro
end

/-! ### what the module says of such a class -/
/-- x stands for an own exception class that keeps one int, under f -/
def XcM (P : Program) (K : PySem.W.Frag) (mg : Str → Option Value) (x f : Str) : Prop :=
  ∃ fI cda cc qual params b scope, BbF P K (He.ga K x) fI cda cc qual params (BbP.body b f) scope f ∧ BbS P params scope b f qual ∧ mg x = some (.ref (He.ga K x)) ∧ mg "super" = none ∧ mg "str" = none
def mRaise (x f : Str) (m : M) : S → Res Out := fun s => (mLeak m s).bind fun d s1 => match d with
  | .int i => if i.natAbs ≤ 1000000 then .exc x (.tup [.str f, .int i]) s1 else .stuck
  | _ => .stuck
section
variable {X : Cx} {W : WX} {e : Expr} {me : M} {x f : Str} {p pos pos' : Pos}
theorem ms_raise (B : XcM X.prog X.K X.mg x f) (hr : Room 3 X.A) (hc : X.calm = true) (tk : Takes X W) (hg : Gl X x) (ha : ME X W e me)
    (hdb : (x == ("__debug__" : Str)) = false := by decide) (he : starEach [e] X.env = (false, eval e X.env) :: starEach [] X.env := by rfl) :
    MS X W (.Raise (some (.Call (.Name x p) [e] [] pos')) none pos) (mRaise x f me) := by
  obtain ⟨fI, cda, cc, qual, params, b, scope, BF, BS, hm, hsup, hstr⟩ := B
  have z := ps_raise (pos := pos) hc tk (pmk_bb (p := p) (pos := pos') BF BS hsup hstr hr hg hm ha hdb he)
  refine ps_imp z fun D σ H h => ?_
  obtain ⟨g, s, ok, h⟩ := h
  unfold mRaise at h
  refine tM_leak ok (k := fun d g1 s1 H1 => PostS X.K W g1 s1 H1 D (match d with
  | .int i => if i.natAbs ≤ 1000000 then .exc x (.tup [.str f, .int i]) s1 else .stuck
  | _ => .stuck)) (PostS.bind h) fun d g1 s1 H1 v t1 k1 o1 rv h1 => ?_
  cases d <;> first | exact h1.elim | skip
  rename_i i
  cases rv
  simp only at h1
  split at h1
  · rename_i hi
    refine ⟨i, rfl, hi, fun dx hx => ?_⟩
    exact h1 _ _ _ g1 _ (Step.grow o1 hx) (o1.grow hx) ⟨rfl, .inr ⟨dx, f, .int i, .int i, rfl, upd_same, rfl, .int i⟩⟩
  · exact h1.elim
end

/-! ### try -/
/-- try: body / except c as n: y = n.f   (tb: which class is one of c) -/
def mTryF (tb : Str → Option Bool) (i j : Nat) (f : Str) (b : S → Res Out) : S → Res Out := fun s => match b s with
  | .exc c p s1 => (match tb c with
    | some true => (match p with
      | .tup [.str f', q] => if f' = f ∧ i ≠ j ∧ i < s1.env.length then (match assign j (.d q) { s1 with env := s1.env.set i .none } with
        | some s2 => .ok .nx s2
        | none => .stuck) else .stuck
      | _ => .stuck)
    | some false => .exc c p s1
    | none => .stuck)
  | r => r
section
variable {K : PySem.W.Frag} {σ : L2.St} {g : G} {s : S} {H : Hp}
theorem Ok.setNone {i : Nat} {x : Option V} (ok : Ok K g s σ H) : Ok K g { s with env := s.env.set i .none } (σ.set i x) H := by
  have cs : ∀ l w, cellOf { s with env := s.env.set i .none } l = some w → cellOf s l = some w := by
    intro l w h
    cases l with
    | gl n => exact h
    | sl k =>
      by_cases hi : i < s.env.length
      · rcases cellOf_set hi h with ⟨_, z⟩ | ⟨_, z⟩
        · cases z
        · exact z
      · have e : s.env.set i Slot.none = s.env := List.set_eq_of_length_le (by omega)
        rw [e] at h; exact h
  refine ⟨ok.sub, fun l w e => ok.cell l w (cs l w e), fun l l' w w' e e' z => ok.inj l l' w w' (cs l w e) (cs l' w' e') z, fun k y e => ?_, by rw [List.length_set, List.length_set]; exact ok.len, ok.ng, fun a p => ?_⟩
  · by_cases z : k = i
    · subst z
      have e' : (s.env.set k Slot.none)[k]? = some y := e
      by_cases hk : k < s.env.length
      · rw [List.getElem?_set_self hk] at e'
        cases e'
        trivial
      · rw [List.getElem?_eq_none (by rw [List.length_set]; omega)] at e'
        cases e'
    · have e' : (s.env.set i Slot.none)[k]? = some y := e
      rw [List.getElem?_set_ne (Ne.symm z)] at e'
      have q := ok.env k y e'
      cases y with
      | none => trivial
      | val d =>
        obtain ⟨v, h1, h2⟩ := q
        exact ⟨v, (List.getElem?_set_ne (Ne.symm z)).trans h1, h2⟩
      | own o => exact (List.getElem?_set_ne (Ne.symm z)).trans q
  · obtain ⟨h1, h2, h3⟩ := ok.prot a p
    exact ⟨h1, h2, fun ⟨l, w, e, z⟩ => h3 ⟨l, w, cs l w e, z⟩⟩
end
section
variable {X : Cx} {W : WX} {body : List Stmt} {mb : S → Res Out} {x n y f : Str} {i j : Nat} {np py pn pa apos pos pos' : Pos} {tb : Str → Option Bool}
theorem ms_tryF (hm : X.mg x = some (.ref (He.ga X.K x))) (hxf : XfC X.K (He.ga X.K x)) (hno : PySem.W.findIn X.K (.ref (He.ga X.K x)) f = some none)
    (htb : ∀ c b, tb c = some b → PySem.W.exmOne X.K (.ref (He.ga X.K c)) (.ref (He.ga X.K x)) = some b ∧ (b = true → c = x)) (hN : X.N.Nodup) (tk : Takes X W) (hg : Gl X x)
    (hb : ∀ (W : WX) (pn : List (Addr × Obj)) (xe : Value → Shared → Prop), Takes (X.tr pn xe) W → PassesOwn (model X.prog X.w) X.A X.env xe → MSs (X.tr pn xe) W body mb)
    (hs : X.stack = X.env :: X.outer := by rfl) (hf : X.env.frame = some X.env.locals := by rfl) (hi : X.N[i]? = some n := by rfl) (hj : X.N[j]? = some y := by rfl) (hln : X.env.kindOf n = some .local := by rfl) (hly : X.env.scope.names.lookup y = some .local := by rfl)
    (hdb : (x == ("__debug__" : Str)) = false := by decide) (hd1 : (n == ("__debug__" : Str)) = false := by decide) (hd2 : (n == ("__classdict__" : Str)) = false := by decide)
    (hsw : swapsWith (.Attribute (.Name n pn) f pa) (some (.Name y py)) apos.line X.env = pure false := by rfl) (hba : attributeBase (.Name n pn) f X.env (eval (.Name n pn) X.env) = eval (.Name n pn) X.env := by rfl) :
    MS X W (.Try body [.ExceptHandler (some (.Name x np)) (some n) [.Assign [.Name y py] (.Attribute (.Name n pn) f pa) apos] pos'] [] [] pos) (mTryF tb i j f mb) := by
  have z := ps_try_as (X := X) (x := x) (n := n) (c := .ref (He.ga X.K x)) (i := i) (np := np) (pos := pos) (pos' := pos') (Wout := W) (tb := fun W => tMS X.K W mb)
    (ts := fun a cls d => fun D σ H => tXf a cls d (He.ga X.K x) f (tVar i) σ H fun v H1 => D.nx (σ.set j (some v)) H1) hs hf hN hi hln ⟨hg, hdb, .inl hm⟩ tk hb
    (fun a oe cls d pn' hz hfs => pss_one (ps_set (X := X.suite a ((a, oe) :: pn')) (i := j) hN hj (.inl hly) (pe_xf (X := X) hxf hno hz hfs (pe_var (X := X.suite a ((a, oe) :: pn')) (i := i) hi (.inl hln) hd1 hd2) hba) hsw (.inr hly)))
  refine ps_imp z fun D σ H h => ?_
  obtain ⟨g, s, ok, h⟩ := h
  refine ⟨g, s, ok, ?_⟩
  unfold mTryF at h
  cases e : mb s with
  | ok a s' => simp only [e] at h; cases a <;> exact h
  | stuck => simp only [e] at h; exact h.elim
  | exc c p s1 =>
    simp only [e] at h
    intro σ' cls d g' H' t o' rep
    obtain ⟨rfl, rep⟩ := rep
    cases eb : tb c with
    | none => simp only [eb] at h; exact h.elim
    | some b =>
      obtain ⟨hx, hc⟩ := htb c b eb
      refine ⟨b, hx, fun hb1 a ha => ?_, fun hb0 => ?_⟩
      · subst hb1
        have ec := hc rfl
        subst ec
        simp only [eb] at h
        split at h
        · rename_i fl q
          split at h
          · rename_i hfij
            obtain ⟨rfl, hij, hlt⟩ := hfij
            split at h
            · rename_i s2 es
              rcases rep with ⟨_, rep⟩ | ⟨dx, f2, v, q2, ed, eH, rep, rq⟩
              · cases rep
              · cases rep
                refine ⟨.ref a, ?_, rfl, rfl, dx, _, v, ed, eH, ?_, ?_⟩
                · exact List.getElem?_set_self (by rw [← o'.len]; exact hlt)
                · simp [List.lookup]
                · show D.nx (((σ'.set i (some (.ref a))).set j (some v)).set i none) H'
                  have el : ((σ'.set i (some (.ref a))).set j (some v)).set i none = (σ'.set i none).set j (some v) := by
                    rw [List.set_comm _ _ (Ne.symm hij), List.set_set, List.set_comm _ _ hij]
                  rw [el]
                  obtain ⟨g2, t2, o2⟩ := assign_ok (o'.setNone (i := i) (x := none)) (show RepRV X.K g' _ H' v (.d q) from rq) es
                  exact h _ _ _ (t.trans t2) o2
            · exact h.elim
          · exact h.elim
        · exact h.elim
      · subst hb0
        simp only [eb] at h
        exact h _ _ _ _ _ t o' ⟨rfl, rep⟩
end
/-- .. and one that a clause names -/
structure XcT (P : Program) (K : PySem.W.Frag) (mg : Str → Option Value) (x f : Str) : Prop where
  xm : XcM P K mg x f
  xf : XfC K (He.ga K x)
  ex : PySem.W.exmOne K (.ref (He.ga K x)) (.ref (He.ga K x)) = some true
def tbOne (x : Str) : Str → Option Bool := fun c => if c = x then some true else none
def mTryX (x : Str) (i j : Nat) (f : Str) (b : S → Res Out) : S → Res Out := mTryF (tbOne x) i j f b
section
variable {X : Cx} {W : WX} {body : List Stmt} {mb : S → Res Out} {x n y f : Str} {i j : Nat} {np py pn pa apos pos pos' : Pos}
theorem ms_tryX (B : XcT X.prog X.K X.mg x f) (hN : X.N.Nodup) (tk : Takes X W) (hg : Gl X x)
    (hb : ∀ (W : WX) (pn : List (Addr × Obj)) (xe : Value → Shared → Prop), Takes (X.tr pn xe) W → PassesOwn (model X.prog X.w) X.A X.env xe → MSs (X.tr pn xe) W body mb)
    (hs : X.stack = X.env :: X.outer := by rfl) (hf : X.env.frame = some X.env.locals := by rfl) (hi : X.N[i]? = some n := by rfl) (hj : X.N[j]? = some y := by rfl) (hln : X.env.kindOf n = some .local := by rfl) (hly : X.env.scope.names.lookup y = some .local := by rfl)
    (hdb : (x == ("__debug__" : Str)) = false := by decide) (hd1 : (n == ("__debug__" : Str)) = false := by decide) (hd2 : (n == ("__classdict__" : Str)) = false := by decide)
    (hsw : swapsWith (.Attribute (.Name n pn) f pa) (some (.Name y py)) apos.line X.env = pure false := by rfl) (hba : attributeBase (.Name n pn) f X.env (eval (.Name n pn) X.env) = eval (.Name n pn) X.env := by rfl) :
    MS X W (.Try body [.ExceptHandler (some (.Name x np)) (some n) [.Assign [.Name y py] (.Attribute (.Name n pn) f pa) apos] pos'] [] [] pos) (mTryX x i j f mb) := by
  obtain ⟨fI, cda, cc, qual, params, b, scope, BF, BS, hm, hsup, hstr⟩ := B.xm
  refine ms_tryF hm B.xf BF.fld (fun c b h => ?_) hN tk hg hb hs hf hi hj hln hly hdb hd1 hd2 hsw hba
  unfold tbOne at h
  split at h
  · rename_i e
    cases h
    subst e
    exact ⟨B.ex, fun _ => rfl⟩
  · cases h
end
end MI
/-! # The head's facts: defs, names, own exception classes -/
namespace MI
open PySem PySem.Spec PyProof.Rows L2 PySem.W

/-- an own exception class with a written __init__: its name, the field, the def -/
structure InD where
  x : Str
  f : Str
  qual : Str
  params : Arguments
  b : BbP
  scope : Scope
abbrev InV : Type := Option (Str × Str × Arguments × FuncBody × Scope × Addr × List Str × Addr)
def InD.val (d : InD) : InV := some (("__init__" : Str), d.qual, d.params, .stmts (d.b.body d.f), d.scope, mainGlobals, [("__class__" : Str)], builtinsNs)
/-- the class object itself -/
def oexB (K : Frag) (C : Addr) : Bool := match K.lookup C with
  | some ⟨.type "type", _, .cls cd, sl⟩ => (match cd.mro, sl.toList with
    | .ref C' :: bm, [_, _, _, _, some (.builtin n), _] => decide (C' = C) && (decide (n = "ValueError.__new__") && (!cd.hasDel && (cd.hasDict && HandSPX.refsVE bm)))
    | _, _ => false)
  | _ => false
theorem oexB_ok {K : Frag} {C : Addr} (h : oexB K C = true) : ∃ nm q N bs bm sn sub ab col dd k0 k1 k2 k3 k5, K.lookup C = some (excClassObj nm q C N bs bm true sn sub ab col dd k0 k1 k2 k3 k5 "ValueError.__new__") ∧ HandSPX.refsVE bm = true := by
  unfold oexB at h
  split at h
  · rename_i dd cd sl ho
    split at h
    · rename_i C' bm k0 k1 k2 k3 n k5 e1 e2
      obtain ⟨a1, h⟩ := Bool.and_eq_true_iff.mp h
      obtain ⟨a2, h⟩ := Bool.and_eq_true_iff.mp h
      obtain ⟨a3, h⟩ := Bool.and_eq_true_iff.mp h
      obtain ⟨a4, a5⟩ := Bool.and_eq_true_iff.mp h
      have b1 := of_decide_eq_true a1
      have b2 := of_decide_eq_true a2
      subst b1 b2
      obtain ⟨nm, bs, mro, ns, qn, hd, sn, sub, ab, col, dl⟩ := cd
      simp only at e1 a3 a4
      subst e1 a4
      have b3 : dl = false := by simpa using a3
      subst b3
      have e3 : sl = #[k0, k1, k2, k3, some (.builtin "ValueError.__new__"), k5] := by
        obtain ⟨l⟩ := sl
        exact congrArg Array.mk e2
      subst e3
      exact ⟨nm, qn, ns, bs, bm, sn, sub, ab, col, dd, k0, k1, k2, k3, k5, ho, a5⟩
    · cases h
  · cases h
def inFn (K : Frag) (d : InD) : Addr := He.ma K (He.ga K d.x) "__init__"
def InD.obs (K : Frag) (d : InD) : InV := match K.lookup (inFn K d) with
  | some ⟨_, _, .func fd, _⟩ => some (fd.name, fd.qualname, fd.params, fd.body, fd.scope, fd.globals, fd.closure.map (·.1), fd.builtins)
  | _ => none
/-- the function object's other parts -/
def inFnB (K : Frag) (C fI : Addr) (qual file : Str) : Bool := match K.lookup fI with
  | some ⟨_, _, .func fd, _⟩ => (match fd.defaults, fd.kwdefaults, fd.closure, fd.code with
    | .none, .none, [(_, cc)], .ref cda => codeIn K (.ref cda) qual && ((match K.lookup cda with
        | some ⟨_, _, .fields vs, _⟩ => (match (vs[2]? : Option Value) with
          | some (Value.str fl _) => (file == fl)
          | _ => false)
        | _ => false) && (match K.lookup cc with
        | some ⟨_, _, .cell (some (.ref D)), _⟩ => decide (D = C)
        | _ => false))
    | _, _, _, _ => false)
  | _ => false
def veB : List Value := [.type "ValueError", .type "Exception", .type "BaseException", .type "object"]
def InD.ok (K : Frag) (file : Str) (d : InD) : Bool :=
  let C := He.ga K d.x
  oexB K C && (He.eqO (findIn K (.ref C) "__setattr__") (some (some (.builtin "object.__setattr__"))) && (decide (subIn K (.ref C) (.type "BaseException") = some true) && (decide (typeIn K (.ref C) = some (.type "type")) && (keepIn K (.ref C) &&
  (He.eqO (findIn K (.ref C) "__init__") (some (some (.ref (inFn K d)))) && (decide (typeIn K (.ref (inFn K d)) = some (.type "function")) && (inFnB K C (inFn K d) d.qual file && ((clsIn K C).isSome && (decide (mroIn K C (.ref C) = some true) &&
  (decide (ks_superIn K C C "__init__" = some (some (.builtin "ValueError.__init__"))) && (decide (subIn K (.ref C) (.type "ValueError") = some true) && (He.eqO (nsIn K cStatics "thirdparty.any") (some none) && (excInitIn K C veB "ValueError.__new__" &&
  (He.eqO (findIn K (.ref C) d.f) (some none) && (xfB K C && (decide (exmOne K (.ref C) (.ref C) = some true) && (He.eqO (nsIn K mainGlobals d.x) (some (some (.ref C))) && (He.eqO (nsIn K mainGlobals "super") (some none) && He.eqO (nsIn K mainGlobals "str") (some none)))))))))))))))))))
theorem InD.xct {P : Program} {K : Frag} {h : Heap} {mg : Str → Option Value} {d : InD} (X : K.In h) (G : h.Ns mainGlobals mg) (ok : d.ok K P.main.file = true) (e : d.obs K = d.val) (S : BbS P d.params d.scope d.b d.f d.qual) : XcT P K mg d.x d.f := by
  unfold InD.ok at ok
  simp only [Bool.and_eq_true, decide_eq_true_eq] at ok
  obtain ⟨c1, c2, c3, c4, c5, c6, c7, c8, c9, c10, c11, c12, c13, c14, c15, c16, c17, c18, c19, c20⟩ := ok
  have c2 := He.eqO_ok c2
  have c6 := He.eqO_ok c6
  have c13 := He.eqO_ok c13
  have c15 := He.eqO_ok c15
  have c18 := He.eqO_ok c18
  have c19 := He.eqO_ok c19
  have c20 := He.eqO_ok c20
  unfold InD.obs at e
  unfold inFnB at c8
  cases q : K.lookup (inFn K d) with
  | none => rw [q] at c8; cases c8
  | some o =>
    obtain ⟨oc, od, dt, osl⟩ := o
    rw [q] at c8 e
    cases dt with
    | func fd =>
      obtain ⟨n1, n2, n3, n4, n5, n6, n7, n8, n9, n10, n11, n12, n13, n14, n15⟩ := fd
      simp only at c8 e
      unfold InD.val at e
      simp only [Option.some.injEq, Prod.mk.injEq] at e
      obtain ⟨h1, h2, h3, h4, h5, h6, h7, h8⟩ := e
      subst h1 h2 h3 h4 h5 h6 h8
      split at c8
      · rename_i nm cc cda
        have hn : nm = "__class__" := by
          have z := List.head_eq_of_cons_eq h7
          exact z
        subst hn
        obtain ⟨d1, c8⟩ := Bool.and_eq_true_iff.mp c8
        obtain ⟨d2, d3⟩ := Bool.and_eq_true_iff.mp c8
        have code : ∃ ccl cdd vs ccs file tf, K.lookup cda = some ⟨ccl, cdd, .fields vs, ccs⟩ ∧ vs[2]? = some (.str file tf) ∧ ((P.main.file : Str) == file) = true := by
          split at d2
          · rename_i ho
            split at d2
            · rename_i hv
              exact ⟨_, _, _, _, _, _, ho, hv, d2⟩
            · cases d2
          · cases d2
        have cell : ∃ cl cld csl, K.lookup cc = some ⟨cl, cld, .cell (some (.ref (He.ga K d.x))), csl⟩ := by
          split at d3
          · rename_i D' _ ho
            have z := of_decide_eq_true d3
            subst z
            exact ⟨_, _, _, ho⟩
          · cases d3
        have BF : BbF P K (He.ga K d.x) (inFn K d) cda cc d.qual d.params (d.b.body d.f) d.scope d.f :=
          ⟨⟨oexB_ok c1, c2, c3, c4, c5⟩, c6, c7, ⟨_, _, _, _, _, _, _, q⟩, d1, code, cell, Option.isSome_iff_exists.mp c9, c10, c11, c12, c13, ⟨veB, F.excBase_ValueError, c14⟩, c15⟩
        exact ⟨⟨_, _, _, _, _, _, _, BF, S, mg_of X G c18, mg_none_of X G c19, mg_none_of X G c20⟩, xfB_ok c16, c17⟩
      · cases c8
    | _ => cases c8
/-! ### the Hook -/
abbrev AlX : Type := Bool × List He.FnW × List InV
structure HdX where
  n : Nat
  file : Str
  fa : List He.Fa
  fn : List He.DefD
  ini : List InD
  tup : List (Str × List He.Dv)
def HdX.ok (d : HdX) (K : Frag) : Bool := d.fa.all (fun f => f.ok K) && (d.fn.all (fun f => f.ok K) && (d.ini.all (fun f => f.ok K d.file) && d.tup.all fun p => He.eqO (nsIn K mainGlobals p.1) (some (some (.ref (He.ga K p.1)))) && He.tupB K p.1 p.2))
def HdX.obs (d : HdX) (K : Frag) : AlX := (d.ok K, d.fn.map (fun f => He.fnW K f.at_), d.ini.map fun f => f.obs K)
def HdX.val (d : HdX) : AlX := (true, d.fn.map He.DefD.val, d.ini.map InD.val)
def HdX.says (d : HdX) (K : Frag) : Prop := d.obs K = d.val
def asX (g : Addr → Option Obj) : Nat → List Addr
  | 0 => [mainGlobals, cStatics]
  | n + 1 => He.growD g (asX g n)
def HdX.obsG (d : HdX) (g : Addr → Option Obj) : AlX := d.obs (He.frG g (asX g d.n))
def HdX.hook (d : HdX) : Hook where
  α := AlX
  obs := fun s => d.obsG s.heap.get?
  val := fun _ => d.val
  says := fun _ h => ∃ K : Frag, K.In h ∧ d.says K
  of := fun _ _ e => ⟨_, He.frG_in, e⟩
  keeps := fun _ _ _ ⟨K, hK, c⟩ k => ⟨K, Frag.In.keeps hK k, c⟩
theorem HdX.obs_eq {d : HdX} {g : Addr → Option Obj} {s : Shared} (h : ∀ a, g a = s.heap.get? a) : d.obsG g = d.hook.obs s := by
  have e : g = s.heap.get? := funext h
  rw [e] <;> rfl
def HdX.ob (d : HdX) (s : SharedT) : AlX := d.obsG (HandSHeadRun.getT s)
theorem HdX.ob_eq (d : HdX) (s : SharedT) : d.ob s = d.hook.obs s.abs := HdX.obs_eq (HandSHeadRun.getT_eq s)
section
variable {d : HdX} {P : Program} {K : Frag} {h : Heap} {mg : Str → Option Value}
theorem HdX.says.ok (c : d.says K) : d.ok K = true := congrArg (fun z : AlX => z.1) c
theorem HdX.says.fact (c : d.says K) (i : Nat) {f : He.Fa} (e : d.fa[i]? = some f := by rfl) : f.ok K = true :=
  List.all_eq_true.mp (Bool.and_eq_true_iff.mp c.ok).1 f (List.mem_of_getElem? e)
theorem HdX.says.def_ (c : d.says K) (X : K.In h) (G : h.Ns mainGlobals mg) (i j : Nat) {x : Str} {params : Arguments} {body : List Stmt} {scope : Scope} (e : d.fn[i]? = some ⟨(x, none), x, x, params, body, scope, [], []⟩ := by rfl) (e2 : d.fa[j]? = some (.glo x) := by rfl) :
    DefM K mg x params body scope := by
  have c1 := (Bool.and_eq_true_iff.mp (Bool.and_eq_true_iff.mp c.ok).2).1
  have q : d.fn.map (fun f => He.fnW K f.at_) = d.fn.map He.DefD.val := congrArg (fun z : AlX => z.2.1) c
  have q2 : (d.fn.map fun f => He.fnW K f.at_)[i]? = (d.fn.map He.DefD.val)[i]? := by rw [q]
  rw [List.getElem?_map, List.getElem?_map, e] at q2
  obtain ⟨fd, F⟩ := He.DefD.funD (Option.some.inj q2) (List.all_eq_true.mp c1 _ (List.mem_of_getElem? e))
  exact ⟨_, fd, F, He.glo_ok X G (c.fact j e2)⟩
theorem HdX.says.free (c : d.says K) (X : K.In h) (G : h.Ns mainGlobals mg) (j : Nat) {x : Str} (e : d.fa[j]? = some (.free x) := by rfl) : mg x = none := He.free_ok X G (c.fact j e)
theorem HdX.says.gint (c : d.says K) (X : K.In h) (G : h.Ns mainGlobals mg) (j : Nat) {x : Str} {i : Int} (e : d.fa[j]? = some (.int x i) := by rfl) : GInt mg x i := He.int_ok X G (c.fact j e)
theorem HdX.says.gstr (c : d.says K) (X : K.In h) (G : h.Ns mainGlobals mg) (j : Nat) {x z : Str} (e : d.fa[j]? = some (.str x z) := by rfl) : GStr mg x z := He.str_ok X G (c.fact j e)
theorem HdX.says.exc (c : d.says K) (hf : d.file = P.main.file) (X : K.In h) (G : h.Ns mainGlobals mg) (i : Nat) {x f qual : Str} {params : Arguments} {b : BbP} {scope : Scope} (S : BbS P params scope b f qual) (e : d.ini[i]? = some ⟨x, f, qual, params, b, scope⟩ := by rfl) : XcT P K mg x f := by
  have c1 := (Bool.and_eq_true_iff.mp (Bool.and_eq_true_iff.mp (Bool.and_eq_true_iff.mp c.ok).2).2).1
  have q : d.ini.map (fun f => f.obs K) = d.ini.map InD.val := congrArg (fun z : AlX => z.2.2) c
  have q2 : (d.ini.map fun f => f.obs K)[i]? = (d.ini.map InD.val)[i]? := by rw [q]
  rw [List.getElem?_map, List.getElem?_map, e] at q2
  have o := List.all_eq_true.mp c1 _ (List.mem_of_getElem? e)
  rw [hf] at o
  exact InD.xct (d := ⟨x, f, qual, params, b, scope⟩) X G o (Option.some.inj q2) S
theorem HdX.says.gtup (c : d.says K) (X : K.In h) (G : h.Ns mainGlobals mg) (i : Nat) {x : Str} {ds : List He.Dv} (e : d.tup[i]? = some (x, ds) := by rfl) : GTup K mg x (ds.map (He.Dv.v K)) := by
  have c1 := (Bool.and_eq_true_iff.mp (Bool.and_eq_true_iff.mp (Bool.and_eq_true_iff.mp c.ok).2).2).2
  have o := List.all_eq_true.mp c1 _ (List.mem_of_getElem? e)
  obtain ⟨o1, o2⟩ := Bool.and_eq_true_iff.mp o
  exact ⟨_, mg_of X G (He.eqO_ok o1), fun H => He.tupB_ok o2 H⟩
end
/-- the places of such an __init__, off its text -/
def bbOf : List Stmt → BbP
  | [.Expr (.Call (.Attribute (.Call (.Name _ p0) _ _ p1) _ p2) [.BinOp (.Constant (.str msg) j p3) _ (.Call (.Name _ p4) [.Name _ p5] _ p6) p7] _ p8) p9, .Assign [.Attribute (.Name _ q0) _ q1] (.Name _ q2) q3] =>
    ⟨p0, p1, p2, p3, p4, p5, p6, p7, p8, p9, q0, q1, q2, q3, msg, j⟩
  | _ => ⟨⟨0, 0, 0, 0⟩, ⟨0, 0, 0, 0⟩, ⟨0, 0, 0, 0⟩, ⟨0, 0, 0, 0⟩, ⟨0, 0, 0, 0⟩, ⟨0, 0, 0, 0⟩, ⟨0, 0, 0, 0⟩, ⟨0, 0, 0, 0⟩, ⟨0, 0, 0, 0⟩, ⟨0, 0, 0, 0⟩, ⟨0, 0, 0, 0⟩, ⟨0, 0, 0, 0⟩, ⟨0, 0, 0, 0⟩, ⟨0, 0, 0, 0⟩, "", 0⟩
/-! ### the end: the law at a script -/
def CXw (P : Program) : CXT := fun outer H s E e s' => ∃ w : World, L2.CX P w outer H s E e s'
theorem law_out {P : Program} (H : Hp) (s : Shared) (e : Value) (s' : Shared) : CXw P [] H s (fun _ _ _ => False) e s' → False := fun ⟨_, _, _, _, _, _, _, _, _, _, _, _, _, z⟩ => z
theorem fnOk_cx {P : Program} {w : World} {K : Frag} {mg : Str → Option Value} {base : Heap} {k : Nat} {f : Addr} {fd : FuncData} {ps : List Str} {sp : Sp} (F : FnOk P w K mg base (L2.CX P w) k f fd ps sp) : FnOk P w K mg base (CXw P) k f fd ps sp :=
  ⟨F.len, fun A outer s H args us vs Q E hr e0 hb r q => codeAny_mono (F.run A outer s H args us vs Q E hr e0 hb r q) fun r s' z => by
    cases r with
    | error e => exact ⟨w, z⟩
    | ok fl => cases fl <;> exact z⟩
theorem law_end {P : Program} {w : World} {K : Frag} {mg : Str → Option Value} {fa : Addr} {h : Heap} {k : Nat} {fm : Fm} (KX : K.In h) (hmg : mg ("law" : Str) = some (.ref fa)) (F : ∀ base : Heap, FnM P w K mg base k "law" ["script"] fm)
    (plain : ∀ ns : List Int, ns.length ≤ 63 → ∃ gl, fm [.scr (ns.map D.int)] [] = .ok (.bl true) gl) :
    ∃ (K : Frag) (fd : FuncData) (sp : Sp), K.In h ∧ (∀ (s : Shared) (u : Value), BindsTo s fd ⟨[u], []⟩ [(("script" : Str), u)]) ∧
        (∀ (H : Hp) (a : Addr) (ns : List Int), ns.length ≤ 63 → Only H → SqL K H a (ns.map V.int) → sp [.ref a] H (fun v _ => v = .bl true) fun _ _ _ => False) ∧
        ∀ base : Heap, K.In base → base.Ns mainGlobals mg → FnOk P w K mg base (CXw P) k fa fd ["script"] sp := by
  obtain ⟨f0, fd, _, hm0, _, _, ⟨oc, od, osl, lk⟩, hb⟩ := (F h).ex
  have ef : f0 = fa := by rw [hm0] at hmg; cases hmg; rfl
  subst ef
  refine ⟨K, fd, spM K fm, KX, fun s u => hb s [u] rfl, fun H a ns hl _ hS => ?_, fun base _ _ => ?_⟩
  · have rl : ∀ ns : List Int, RepL K ⟨H, fun _ => False, fun _ => 0, 0⟩ (ns.map V.int) (ns.map D.int) := fun ns => by
      induction ns with
      | nil => exact .nil
      | cons i r ih => exact .cons (.int i) ih
    refine ⟨⟨H, fun _ => False, fun _ => 0, 0⟩, [], [.scr (ns.map D.int)], ⟨Sub.refl _, fun l o e => ?_, fun l l' o o' e => ?_, fun i x e => (nomatch e), rfl, rfl, fun a p => p.elim⟩, .one (.scr hS (rl ns)), ?_⟩
    · cases l with
      | sl i => exact nomatch (show (none : Option MObj) = some o from e)
      | gl n => exact nomatch (show (none : Option MObj) = some o from e)
    · cases l with
      | sl i => exact nomatch (show (none : Option MObj) = some o from e)
      | gl n => exact nomatch (show (none : Option MObj) = some o from e)
    · obtain ⟨gl, e⟩ := plain ns hl
      rw [e]
      intro v g' H' _ _ r
      cases r
      rfl
  · obtain ⟨f1, fd1, F1, hm1, _, _, ⟨oc1, od1, osl1, lk1⟩, _⟩ := (F base).ex
    have ef : f1 = f0 := by rw [hm0] at hm1; cases hm1; rfl
    subst ef
    rw [lk] at lk1
    cases lk1
    exact fnOk_cx F1
end MI
/-! # More methods of lists -/
namespace MI
open PySem PySem.Spec PyProof.Rows L2
/-- xs.extend(ys), ys a list -/
def fExtend : List D → D → Option (D × List D) := fun xs d => match d with
  | .lst ys => if xs.length + ys.length ≤ sizeLine then some (.non, xs ++ ys) else none
  | _ => none
section
variable {X : Cx} {W : WX} {o a : Expr} {mo ma : M} {apos cpos : Pos}
/-- (as mLm1_of; the heap of the argument is seen) -/
theorem mLm1_ofF {f : List D → D → Option (D × List D)} {r : V → List V → Hp → VK → Prop}
    (hf : ∀ (g : G) (l : Addr) (vs : List V) (xs : List D) (y : V) (d : D) (x : D) (ys : List D) (H : Hp) (Q : VK), Sub g.F H → RepL X.K g vs xs → Rep X.K g y d → H l = some (.lst vs) → f xs d = some (x, ys) →
      (∀ v ws, Rep X.K g v x → RepL X.K g ws ys → Q v (upd H l (.lst ws))) → r (.ref l) [y] H Q)
    {σ : L2.St} {H : Hp} {Q : VK} {g : G} {s : S} (ok : Ok X.K g s σ H) (h : PostE X.K W σ g s H (kE X.K Q) (mLm1 f mo ma s)) : tBM X.K "list" r (tM X.K W mo) (tCons (tM X.K W ma) tNil) σ H Q := by
  refine ⟨g, s, ok, (PostE.bind h).mono fun rv g1 s1 H1 t1 k1 o1 h1 v rr => ?_⟩
  split at h1
  · rename_i l e1
    have hv := locOf_ok rr e1
    subst hv
    split at h1
    · rename_i zs e2
      obtain ⟨us, hu, _⟩ := cell_lst o1 e2
      refine ⟨.inl ⟨rfl, us, .of hu⟩, ?_⟩
      refine tM_leak o1 (PostE.bind h1) fun d g2 s2 H2 y t2 k2 o2 ry h2 => ?_
      have el := loc_held o1 e2 t2 k2
      split at h2
      · rename_i xs e3
        split at h2
        · rename_i x ys e4
          obtain ⟨vs, hvs, rvs⟩ := cell_lst o2 e3
          show r (.ref (g1.adr l)) [y] H2 Q
          rw [← el]
          exact hf g2 _ vs xs y d x ys H2 Q o2.sub rvs ry hvs e4 fun v ws rv rw' => kE_change (o' := .lst ys) o2 e3 ⟨ws, upd_same, rw'⟩ rv h2
        · exact h2.elim
      · exact h2.elim
    · exact h1.elim
  · exact h1.elim
theorem me_extend (ho : ME X W o mo) (ha : ME X W a ma) (hbase : attributeBase o "extend" X.env (eval o X.env) = eval o X.env := by rfl)
    (hfew : ((backTo cpos (starEach [a] X.env)).all (fun x => !x.1) && (backToKw cpos (keywordEach [] X.env)).all (fun x => x.1.isSome)
      && decide ([a].length + ([] : List Keyword).length + (if ([] : List Keyword).isEmpty then 0 else 1) < 30)) = true := by rfl)
    (hline : (apos.endLine == cpos.line) = true := by rfl) (hs : starEach [a] X.env = (false, eval a X.env) :: starEach [] X.env := by rfl) :
    ME X W (.Call (.Attribute o "extend" apos) [a] [] cpos) (mLm1 fExtend mo ma) := by
  have z := pe_bm PySem.F.plainAttrs_list PySem.F.slot_list_extend PySem.F.type_list_extend mt_extend ho (pa_cons ha pa_nil hs) hbase hfew hline hs
  refine pe_imp z fun σ H Q h => ?_
  obtain ⟨g, s, ok, h⟩ := h
  refine mLm1_ofF (fun g l vs xs y d x ys H Q sb rvs ry hl e q => ?_) ok h
  clear h
  obtain ⟨zd, rfl⟩ : ∃ zd, d = .lst zd := by
    cases d <;> first | exact ⟨_, rfl⟩ | exact absurd e (by simp [fExtend])
  cases ry
  rename_i b zs hb rz
  unfold fExtend at e
  simp only at e
  split at e
  · rename_i hz
    cases e
    exact ⟨l, b, vs, zs, rfl, rfl, hl, sb _ _ hb, by rw [rvs.length, rz.length]; exact hz, q _ _ .non (rvs.append rz)⟩
  · cases e
end
/-! ### enumerate of a list -/
def enumD (lo : Nat) : List D → List D
  | [] => []
  | d :: ds => .tup [.int lo, d] :: enumD (lo + 1) ds
theorem enumD_len : ∀ (lo : Nat) (ds : List D), (enumD lo ds).length = ds.length
  | _, [] => rfl
  | lo, d :: ds => by rw [enumD, List.length_cons, List.length_cons, enumD_len]
theorem enumD_get : ∀ (lo : Nat) (ds : List D) (i : Nat) (x : D), (enumD lo ds)[i]? = some x → ∃ d, ds[i]? = some d ∧ x = .tup [.int ((lo + i : Nat) : Int), d]
  | _, [], _, _, h => by cases h
  | lo, d :: ds, 0, x, h => ⟨d, rfl, by simpa [enumD] using h.symm⟩
  | lo, d :: ds, i + 1, x, h => by
    obtain ⟨y, h1, h2⟩ := enumD_get (lo + 1) ds i x (by simpa [enumD] using h)
    refine ⟨y, by simpa using h1, ?_⟩
    rw [h2, show lo + 1 + i = lo + (i + 1) by omega]
def iEnumM (m : S → Res (List D)) : S → Res (List D) := fun s => (m s).bind fun ds s1 => match ds with
  | [.lst xs] => .ok (enumD 0 xs) s1
  | [.scr xs] => .ok (enumD 0 xs) s1
  | _ => .stuck
theorem walk_enum {K : PySem.W.Frag} {g : G} {a : Addr} {vs : List V} {ds : List D} (h : SqL K g.F a vs) (r : RepL K g vs ds) : Walk K (Ite K a) (enumD 0 ds) g := by
  intro g' s' σ' H' l ok
  have hq : SqL K H' a vs := sqL_mono (l.F.trans ok.sub) h
  refine ⟨⟨vs, hq, by rw [r.length, enumD_len]; exact Nat.le_refl _⟩, fun i d e => ?_⟩
  obtain ⟨y, hy, rfl⟩ := enumD_get 0 ds i d e
  obtain ⟨v, hv, rv⟩ := r.get hy
  refine ⟨⟨vs, v, hq, hv⟩, fun x H'' ⟨T, z, ex, hT, eH, e2⟩ => ?_⟩
  subst ex eH
  have e3 := e2 vs hq
  rw [hv] at e3
  cases e3
  have k1 := ok.grow (o := .tup [.int (i : Nat), v]) hT
  have k2 := k1.frz (o := .tup [.int (i : Nat), v]) upd_same (ok.fnone hT) (ok.pnone hT) (ok.lnone hT)
  refine ⟨g'.frz T (.tup [.int (i : Nat), v]), (Step.grow ok hT).trans (Step.frz (ok.fnone hT)), SlKeep.refl _, k2, ?_⟩
  rw [Nat.zero_add]
  exact .tup (.inl (.inl upd_same)) (.cons (.int _) (.cons ((rv.mono l).mono (frz_le (ok.fnone hT))) .nil))
section
variable {X : Cx} {W : WX} {e : Expr} {m : S → Res (List D)} {p pos tpos : Pos} {elts : List Expr} {kk : Nat}
theorem mi_enum (ha : MA X W [e] m) (hg : Gl X "enumerate") (hm : X.mg "enumerate" = none) (hs : starEach [e] X.env = [(false, eval e X.env)] := by rfl) : MIt X W (.Tuple elts kk tpos) (.Call (.Name "enumerate" p) [e] [] pos) (iEnumM m) := by
  refine pi_imp (pi_enum hg hm ha hs) fun σ H R h => ?_
  obtain ⟨g, s, ok, h⟩ := h
  refine ⟨g, s, ok, (PostE.bind h).mono fun ds g1 s1 H1 t1 k1 o1 h1 vs rs => ?_⟩
  split at h1
  · cases rs with
    | cons r1 rs =>
      cases rs
      cases r1 with
      | lst hq r => exact ⟨_, _, rfl, .of (o1.sub _ _ hq), PostE.done h1 o1 _ (walk_enum (.of hq) r)⟩
  · cases rs with
    | cons r1 rs =>
      cases rs
      cases r1 with
      | scr hq r => exact ⟨_, _, rfl, sqL_mono o1.sub hq, PostE.done h1 o1 _ (walk_enum hq r)⟩
  · exact h1.elim
end
/-! ### a text's signs -/
def signs (x : Str) : List D := x.cps.toList.map fun c => .str ⟨#[c]⟩
def iStrM (m : M) : S → Res (List D) := fun s => (mLeak m s).bind fun d s1 => match d with
  | .str x => .ok (signs x) s1
  | _ => .stuck
theorem walk_str {K : PySem.W.Frag} {g : G} {x : Str} : Walk K (Its x) (signs x) g := by
  intro g' s' σ' H' l ok
  refine ⟨by show x.cps.size ≤ (signs x).length; simp [signs], fun i d e => ?_⟩
  unfold signs at e
  rw [List.getElem?_map] at e
  obtain ⟨c, hc, rfl⟩ := Option.map_eq_some_iff.mp e
  have hc' : x.cps[i]? = some c := by rw [← Array.getElem?_toList]; exact hc
  refine ⟨(Array.getElem?_eq_some_iff.mp hc').1, fun y H'' ⟨e1, c', h', ey⟩ => ?_⟩
  subst e1 ey
  rw [hc'] at h'
  cases h'
  exact ⟨g', Step.refl _ _, SlKeep.refl _, ok, .str _⟩
theorem mi_str {X : Cx} {W : WX} {tg e : Expr} {me : M} (he : ME X W e me) : MIt X W tg e (iStrM me) := by
  refine pi_imp (pi_str he) fun σ H R h => ?_
  obtain ⟨g, s, ok, h⟩ := h
  refine tM_leak ok (PostE.bind h) fun d g1 s1 H1 v t1 k1 o1 rv h1 => ?_
  split at h1
  · cases rv
    exact ⟨_, rfl, PostE.done h1 o1 _ walk_str⟩
  · exact h1.elim
end MI
namespace MI
open PySem PySem.Spec PyProof.Rows L2
/-! ### a text in a text -/
def inS (i j : Str) : Bool := !(Builtin.Str.occurrences j i 0 j.length 1).isEmpty
def opInS : S → RV → RV → Res RV := fS fun i j => inS i j
section
variable {X : Cx} {W : WX} {a b : Expr} {ma mb : M} {pos : Pos}
theorem os_inS : OpS X W (fun x y H Q => ∃ i j, x = .str i ∧ y = .str j ∧ Q (.bl (inS i j)) H) opInS := fS_ok
theorem me_inS (ha : ME X W a ma) (hb : ME X W b mb) (hm : behindInMarks .In b = false) : ME X W (.Compare a [.In] [b] pos) (mBin opInS ma mb) := me_cmp op_in_str os_inS ha hb hm
theorem mt_inS (ha : ME X W a ma) (hb : ME X W b mb) (hm : behindInMarks .In b = false) : MT X W (.Compare a [.In] [b] pos) (mBl (mBin opInS ma mb)) := mt_cmp op_in_str os_inS ha hb hm
/-- .. a single sign -/
def opInC (neg : Bool) : S → RV → RV → Res RV := fun s a b => match asStr a, asStr b with
  | some x, some z => (match x.cps.toList with
    | [c] => .ok (.d (.bl (decide (c ∈ z.cps.toList) != neg))) s
    | _ => .stuck)
  | _, _ => .stuck
theorem one_sign {x : Str} {c : Nat} (h : x.cps.toList = [c]) : x = ⟨#[c]⟩ := by
  obtain ⟨⟨l⟩⟩ := x
  simp only at h
  subst h
  rfl
theorem os_inC : OpS X W (fun x y H Q => ∃ (c : Nat) (z : Str), x = .str ⟨#[c]⟩ ∧ y = .str z ∧ Q (.bl (decide (c ∈ z.cps.toList))) H) (opInC false) := by
  intro σ g s H Q x y ra rb ok rx ry nn q
  unfold opInC at q
  split at q
  · rename_i i j e1 e2
    split at q
    · rename_i c hc
      refine ⟨c, j, by rw [asStr_ok rx e1, one_sign hc], asStr_ok ry e2, ?_⟩
      have z := kE_d q ok (.bl _)
      simpa using z
    · exact q.elim
  · exact q.elim
theorem me_inC (ha : ME X W a ma) (hb : ME X W b mb) (hm : behindInMarks .In b = false) : ME X W (.Compare a [.In] [b] pos) (mBin (opInC false) ma mb) := me_cmp op_in_sign os_inC ha hb hm
theorem mt_inC (ha : ME X W a ma) (hb : ME X W b mb) (hm : behindInMarks .In b = false) : MT X W (.Compare a [.In] [b] pos) (mBl (mBin (opInC false) ma mb)) := mt_cmp op_in_sign os_inC ha hb hm
end
end MI
/-! # Methods of lists and texts, x += e -/
namespace MI
open PySem PySem.Spec PyProof.Rows L2

/-! ### xs.extend(a list or a tuple) -/
theorem extend_tuple_any (l : Addr) (items : Array Value) (n : Nat) (b : Addr) (items2 : Array Value) (n2 : Nat) (dd : Option Addr) (sl : Array (Option Value)) (hs0 : ¬(!items.isEmpty && Builtin.List.listTooLong (items.size + items2.size)) = true) (hs1 : items.size ≤ sizeLine) (hs2 : items.size + items2.size ≤ sizeLine + 1) :
    Meets (Builtin.«list.extend» ⟨[.ref l, .ref b], []⟩) (fun _ R s => s.heap.get? l = some { cls := .type "list", dict := none, data := .seq items n, slots := #[] } ∧ s.heap.get? b = some { cls := .type "tuple", dict := dd, data := .seq items2 n2, slots := sl } ∧ R (.ok (.ret Value.none)) { s with heap := s.heap.update l (Obj.mapSeq fun x => x ++ items2), toks := s.toks }) :=
  .of_wp fun prog w A R s h => by
    obtain ⟨hp, g, d, tk, os⟩ := s; obtain ⟨hl, hb, h⟩ := h; have f1 := AutoSeq1.idx_int; have f2 := AutoSeq1.sub_tuple_tuple; have f3 := AutoSeq1.sub_list_list; have f4 := AutoSeq1.sub_tuple_list; have f5 := AutoSeq1.sub_list_tuple
    have hz' : (items ++ items2).size ≤ sizeLine + 1 := by rw [Array.size_append]; exact hs2
    wp_walk using (wpAny_updateSeq hl rfl (hz := hs1) (_hz' := hz')), wpAny_loadPart' hl, wpAny_loadPart' hb; exact ⟨_, rfl, h⟩
def rExtendT (K : PySem.W.Frag) : V → List V → Hp → VK → Prop := fun x vs H Q => ∃ l b xs zs, x = .ref l ∧ vs = [.ref b] ∧ H l = some (.lst xs) ∧ SqT K H b zs ∧ xs.length + zs.length ≤ sizeLine ∧ Q .non (upd H l (.lst (xs ++ zs)))
theorem mt_extendA {X : Cx} : MtM X "list.extend" (fun x vs H Q => rExtend x vs H Q ∨ rExtendT X.K x vs H Q) := by
  intro pins s σ H x vs v us Q I rx rv h
  rcases h with h | h
  · exact mt_extend pins s σ H x vs v us Q I rx rv h
  obtain ⟨l, b, xs, zs, rfl, rfl, hH, hB, hz, q⟩ := h
  cases rx
  obtain ⟨u, rfl, ru⟩ := rv.one
  cases ru
  obtain ⟨z, its, n, r, hl, e⟩ := I.lstM hH
  obtain ⟨its2, r2, ⟨⟨cls, dd, data, sl⟩, ho, hc, n2, hd⟩, hl2⟩ := I.tuple hB
  simp only at hc hd
  subst hc hd
  have z1 := r.length
  have z2 := r2.length
  have hsz : its.toArray.size + its2.toArray.size ≤ sizeLine := by rw [List.size_toArray, List.size_toArray]; omega
  have hlong : ¬ (!its.toArray.isEmpty && Builtin.List.listTooLong (its.toArray.size + its2.toArray.size)) = true := by
    rw [notLongL hsz, Bool.and_false]
    exact Bool.false_ne_true
  refine call_meets F.slot_list_extend ⟨_, e, rfl⟩ F.entry_list_extend (F.args_list_extend_2 _ _)
    (extend_tuple_any l its.toArray n b its2.toArray n2 dd sl hlong (by rw [List.size_toArray]; omega) (by omega)) ⟨e, ho, ?_⟩
  refine ⟨.non, _, I.lset (its' := its ++ its2) hH e (by simp) (r.append r2) ?_, rfl, q⟩
  rw [List.length_append]
  omega
def fExtendA : List D → D → Option (D × List D) := fun xs d => match d with
  | .lst ys => if xs.length + ys.length ≤ sizeLine then some (.non, xs ++ ys) else none
  | .tup ys => if xs.length + ys.length ≤ sizeLine then some (.non, xs ++ ys) else none
  | _ => none
section
variable {X : Cx} {W : WX} {o a : Expr} {mo ma : M} {apos cpos : Pos}
theorem me_extendA (ho : ME X W o mo) (ha : ME X W a ma) (hbase : attributeBase o "extend" X.env (eval o X.env) = eval o X.env := by rfl)
    (hfew : ((backTo cpos (starEach [a] X.env)).all (fun x => !x.1) && (backToKw cpos (keywordEach [] X.env)).all (fun x => x.1.isSome)
      && decide ([a].length + ([] : List Keyword).length + (if ([] : List Keyword).isEmpty then 0 else 1) < 30)) = true := by rfl)
    (hline : (apos.endLine == cpos.line) = true := by rfl) (hs : starEach [a] X.env = (false, eval a X.env) :: starEach [] X.env := by rfl) :
    ME X W (.Call (.Attribute o "extend" apos) [a] [] cpos) (mLm1 fExtendA mo ma) := by
  have z := pe_bm PySem.F.plainAttrs_list PySem.F.slot_list_extend PySem.F.type_list_extend mt_extendA ho (pa_cons ha pa_nil hs) hbase hfew hline hs
  refine pe_imp z fun σ H Q h => ?_
  obtain ⟨g, s, ok, h⟩ := h
  refine mLm1_ofF (fun g l vs xs y d x ys H Q sb rvs ry hl e q => ?_) ok h
  clear h
  unfold fExtendA at e
  split at e
  · cases ry
    rename_i zs b us hb rz
    split at e
    · rename_i hz
      cases e
      exact .inl ⟨l, b, vs, us, rfl, rfl, hl, sb _ _ hb, by rw [rvs.length, rz.length]; exact hz, q _ _ .non (rvs.append rz)⟩
    · cases e
  · cases ry
    rename_i zs b us hb rz
    split at e
    · rename_i hz
      cases e
      exact .inr ⟨l, b, vs, us, rfl, rfl, hl, sqT_mono sb hb, by rw [rvs.length, rz.length]; exact hz, q _ _ .non (rvs.append rz)⟩
    · cases e
  · cases e
end

/-! ### xs.pop() -/
def mLm0 (f : List D → Option (D × List D)) (o : M) : M := fun s => (o s).bind fun r s1 => match locOf r with
  | some l => (match cellOf s1 l with
    | some (.lst xs) => (match f xs with
      | some (x, ys) => .ok (.d x) (setCell s1 l (.lst ys))
      | none => .stuck)
    | _ => .stuck)
  | none => .stuck
def fPop : List D → Option (D × List D) := fun xs => match xs[xs.length - 1]? with
  | some y => some (y, xs.dropLast)
  | none => none
section
variable {X : Cx} {W : WX} {o a : Expr} {mo ma : M} {apos cpos : Pos}
theorem me_pop (ho : ME X W o mo) (hbase : attributeBase o "pop" X.env (eval o X.env) = eval o X.env := by rfl) (hline : (apos.endLine == cpos.line) = true := by rfl) :
    ME X W (.Call (.Attribute o "pop" apos) [] [] cpos) (mLm0 fPop mo) := by
  refine pe_imp (pe_bm0 PySem.F.plainAttrs_list PySem.F.slot_list_pop PySem.F.type_list_pop mt_pop ho hbase hline) fun σ H Q h => ?_
  obtain ⟨g, s, ok, h⟩ := h
  refine ⟨g, s, ok, (PostE.bind h).mono fun rv g1 s1 H1 t1 k1 o1 h1 v rr => ?_⟩
  split at h1
  · rename_i l e1
    have hv := locOf_ok rr e1
    subst hv
    split at h1
    · rename_i zs e2
      obtain ⟨us, hu, ru⟩ := cell_lst o1 e2
      refine ⟨.inl ⟨rfl, us, .of hu⟩, ?_⟩
      split at h1
      · rename_i x ys e4
        unfold fPop at e4
        split at e4
        · rename_i y ey
          cases e4
          obtain ⟨w, hw, rw'⟩ := ru.get ey
          refine ⟨_, us, w, rfl, rfl, hu, by rw [ru.length]; exact hw, ?_⟩
          refine kE_change (o' := .lst zs.dropLast) o1 e2 ⟨us.dropLast, upd_same, ?_⟩ rw' h1
          rw [List.dropLast_eq_take, List.dropLast_eq_take, ru.length]
          exact ru.take _
        · cases e4
      · exact h1.elim
    · exact h1.elim
  · exact h1.elim

/-! ### methods of texts with one argument -/
def mSm1 (f : Str → D → Option D) (o a : M) : M := fun s => (mLeak o s).bind fun d s1 => match d with
  | .str x => (mLeak a s1).bind fun y s2 => (match f x y with
    | some z => .ok (.d z) s2
    | none => .stuck)
  | _ => .stuck
theorem mSm1_of {f : Str → D → Option D} {r : V → List V → Hp → VK → Prop}
    (hf : ∀ (g : G) (x : Str) (y : V) (d z : D) (H : Hp) (Q : VK), Sub g.F H → Rep X.K g y d → f x d = some z → (∀ v, Rep X.K g v z → Q v H) → r (.str x) [y] H Q)
    {σ : L2.St} {H : Hp} {Q : VK} {g : G} {s : S} (ok : Ok X.K g s σ H) (h : PostE X.K W σ g s H (kE X.K Q) (mSm1 f mo ma s)) : tBM X.K "str" r (tM X.K W mo) (tCons (tM X.K W ma) tNil) σ H Q := by
  refine tM_leak ok (PostE.bind h) fun d g1 s1 H1 v t1 k1 o1 rv h1 => ?_
  split at h1
  · cases rv
    refine ⟨rfl, ?_⟩
    refine tM_leak o1 (PostE.bind h1) fun d g2 s2 H2 y t2 k2 o2 ry h2 => ?_
    split at h2
    · rename_i z e
      exact hf g2 _ y d z H2 Q o2.sub ry e fun v rv => kE_d h2 o2 rv
    · exact h2.elim
  · exact h1.elim
def fIndexS : Str → D → Option D := fun x d => match d with
  | .str y => (match Builtin.Str.occurrences x y 0 x.length 1 with
    | i :: _ => some (.int (i : Nat))
    | [] => none)
  | _ => none
theorem me_indexS (ho : ME X W o mo) (ha : ME X W a ma) (hbase : attributeBase o "index" X.env (eval o X.env) = eval o X.env := by rfl)
    (hfew : ((backTo cpos (starEach [a] X.env)).all (fun x => !x.1) && (backToKw cpos (keywordEach [] X.env)).all (fun x => x.1.isSome)
      && decide ([a].length + ([] : List Keyword).length + (if ([] : List Keyword).isEmpty then 0 else 1) < 30)) = true := by rfl)
    (hline : (apos.endLine == cpos.line) = true := by rfl) (hs : starEach [a] X.env = (false, eval a X.env) :: starEach [] X.env := by rfl) :
    ME X W (.Call (.Attribute o "index" apos) [a] [] cpos) (mSm1 fIndexS mo ma) := by
  refine pe_imp (pe_bm PySem.F.plainAttrs_str PySem.F.slot_str_index PySem.F.type_str_index mt_sindex ho (pa_cons ha pa_nil hs) hbase hfew hline hs) fun σ H Q h => ?_
  obtain ⟨g, s, ok, h⟩ := h
  refine mSm1_of (fun g x y d z H Q sb ry e q => ?_) ok h
  unfold fIndexS at e
  split at e
  · rename_i y0
    cases ry
    split at e
    · rename_i i rest ho
      cases e
      exact ⟨x, _, i, rest, rfl, rfl, ho, q _ (.int _)⟩
    · cases e
  · cases e
def strsOf : List D → Option (List Str)
  | [] => some []
  | .str i :: r => (strsOf r).map (i :: ·)
  | _ :: _ => none
theorem strsOf_ok {K : PySem.W.Frag} {g : G} : ∀ {vs : List V} {ds : List D} {bs : List Str}, RepL K g vs ds → strsOf ds = some bs → vs = bs.map V.str
  | _, _, _, .nil, e => by cases e; rfl
  | _, _, bs, .cons (d := d) a b, e => by
    cases d with
    | str k =>
      cases a
      simp only [strsOf] at e
      obtain ⟨cs, e1, rfl⟩ := Option.map_eq_some_iff.mp e
      rw [strsOf_ok b e1]; rfl
    | _ => cases e
def joinD (x : Str) (ds : List D) : Option D := match strsOf ds with
  | some ys => if (ys.map (·.length)).sum + ys.length * x.length ≤ 16777216 then some (.str (Txt.join x ys)) else none
  | none => none
def fJoin : Str → D → Option D := fun x d => match d with
  | .lst ds => joinD x ds
  | .tup ds => joinD x ds
  | _ => none
theorem joinD_ok {x : Str} {ds : List D} {z : D} (e : joinD x ds = some z) : ∃ ys, strsOf ds = some ys ∧ (ys.map (·.length)).sum + ys.length * x.length ≤ 16777216 ∧ z = .str (Txt.join x ys) := by
  unfold joinD at e
  split at e
  · rename_i ys e1
    split at e
    · rename_i h
      cases e
      exact ⟨ys, e1, h, rfl⟩
    · cases e
  · cases e
theorem me_join (ho : ME X W o mo) (ha : ME X W a ma) (hbase : attributeBase o "join" X.env (eval o X.env) = eval o X.env := by rfl)
    (hfew : ((backTo cpos (starEach [a] X.env)).all (fun x => !x.1) && (backToKw cpos (keywordEach [] X.env)).all (fun x => x.1.isSome)
      && decide ([a].length + ([] : List Keyword).length + (if ([] : List Keyword).isEmpty then 0 else 1) < 30)) = true := by rfl)
    (hline : (apos.endLine == cpos.line) = true := by rfl) (hs : starEach [a] X.env = (false, eval a X.env) :: starEach [] X.env := by rfl) :
    ME X W (.Call (.Attribute o "join" apos) [a] [] cpos) (mSm1 fJoin mo ma) := by
  refine pe_imp (pe_bm PySem.F.plainAttrs_str PySem.F.slot_str_join PySem.F.type_str_join mt_join ho (pa_cons ha pa_nil hs) hbase hfew hline hs) fun σ H Q h => ?_
  obtain ⟨g, s, ok, h⟩ := h
  refine mSm1_of (fun g x y d z H Q sb ry e q => ?_) ok h
  unfold fJoin at e
  split at e
  · cases ry
    rename_i b us hb rz
    obtain ⟨ys, e1, hz, rfl⟩ := joinD_ok e
    have eu := strsOf_ok rz e1
    subst eu
    exact ⟨x, b, ys, rfl, rfl, .inl (.of (sb _ _ hb)), hz, q _ (.str _)⟩
  · cases ry
    rename_i b us hb rz
    obtain ⟨ys, e1, hz, rfl⟩ := joinD_ok e
    have eu := strsOf_ok rz e1
    subst eu
    exact ⟨x, b, ys, rfl, rfl, .inr (sqT_mono sb hb), hz, q _ (.str _)⟩
  · cases e
end

/-! ### x += e, ints -/
def mAug (i : Nat) (f : Int → Int → Int) (m : M) : S → Res Out := fun s => match s.env[i]? with
  | some (.val (.int a)) => (m s).bind fun r s1 => (match asInt r with
    | some b => (match assign i (.d (.int (f a b))) s1 with
      | some s2 => .ok .nx s2
      | none => .stuck)
    | none => .stuck)
  | _ => .stuck
section
variable {X : Cx} {W : WX} {e : Expr} {me : M} {pos : Pos}
theorem ms_aug {i : Nat} {x : Str} {f : Int → Int → Int} {op : Operator} {pos' : Pos} (hp : PIp X op (ipI f)) (he : ME X W e me) (hN : X.N.Nodup) (hi : X.N[i]? = some x := by rfl) (hx : L2.Loc X.env.scope x := by first | exact Or.inl rfl | exact Or.inr rfl)
    (hf : X.fn x = true ∨ X.env.scope.names.lookup x = some .local := by first | exact .inl rfl | exact .inr rfl) : MS X W (.AugAssign (.Name x pos') op e pos) (mAug i f me) := by
  refine ps_imp (ps_aug hN hi hx he hp hf) fun D σ H ⟨g, s, ok, h⟩ => ?_
  unfold mAug at h
  split at h
  · rename_i a e1
    obtain ⟨v, ev, rv⟩ := ok.env i _ e1
    cases rv
    refine ⟨.int a, ev, g, s, ok, (PostS.bind h).mono fun r g1 s1 H1 t1 k1 o1 h1 v rv => ?_⟩
    split at h1
    · rename_i b eb
      refine ⟨a, b, rfl, asInt_ok rv eb, ?_⟩
      split at h1
      · rename_i s2 e2
        obtain ⟨g2, t2, o2⟩ := assign_ok (v := .int (f a b)) o1 (show RepRV X.K g1 s1 H1 _ (.d _) from .int _) e2
        exact h1 _ g2 H1 t2 o2
      · exact h1.elim
    · exact h1.elim
  · exact h.elim
theorem ms_augAdd {i : Nat} {x : Str} {pos' : Pos} (he : ME X W e me) (hN : X.N.Nodup) (hi : X.N[i]? = some x := by rfl) (hx : L2.Loc X.env.scope x := by first | exact Or.inl rfl | exact Or.inr rfl)
    (hf : X.fn x = true ∨ X.env.scope.names.lookup x = some .local := by first | exact .inl rfl | exact .inr rfl) : MS X W (.AugAssign (.Name x pos') .Add e pos) (mAug i (fun a b => a + b) me) := ms_aug ip_add he hN hi hx hf
theorem ms_augSub {i : Nat} {x : Str} {pos' : Pos} (he : ME X W e me) (hN : X.N.Nodup) (hi : X.N[i]? = some x := by rfl) (hx : L2.Loc X.env.scope x := by first | exact Or.inl rfl | exact Or.inr rfl)
    (hf : X.fn x = true ∨ X.env.scope.names.lookup x = some .local := by first | exact .inl rfl | exact .inr rfl) : MS X W (.AugAssign (.Name x pos') .Sub e pos) (mAug i (fun a b => a - b) me) := ms_aug ip_sub he hN hi hx hf
end
end MI
/-! # Ranges by steps, targets in one another, dicts, sorting -/
namespace MI
open PySem PySem.Spec PyProof.Rows L2

/-! ### range(a, b, c) -/
def rangeC (lo c : Int) : Nat → List D
  | 0 => []
  | n + 1 => .int lo :: rangeC (lo + c) c n
theorem rangeC_len : ∀ (n : Nat) (lo c : Int), (rangeC lo c n).length = n
  | 0, _, _ => rfl
  | n + 1, lo, c => by rw [rangeC, List.length_cons, rangeC_len n]
theorem rangeC_get : ∀ (n : Nat) (lo c : Int) (i : Nat) (d : D), (rangeC lo c n)[i]? = some d → i < n ∧ d = .int (lo + (i : Nat) * c)
  | 0, _, _, _, _, e => by simp [rangeC] at e
  | n + 1, lo, c, 0, d, e => by simp [rangeC] at e; subst e; simp
  | n + 1, lo, c, i + 1, d, e => by
    obtain ⟨h1, h2⟩ := rangeC_get n (lo + c) c i d (by simpa [rangeC] using e)
    refine ⟨by omega, ?_⟩
    rw [h2]
    congr 1
    have : ((i + 1 : Nat) : Int) * c = (i : Int) * c + c := by rw [Int.natCast_succ, Int.add_mul, Int.one_mul]
    omega
theorem rng3_ex (i j c : Int) : ∃ r : Option (List D), r = if c ≠ 0 ∧ c.natAbs < 1073741824 ∧ Builtin.Range.small i j c = true ∧ 0 ≤ Builtin.Range.rangeSize i j c then some (rangeC i c (Builtin.Range.rangeSize i j c).toNat) else none := ⟨_, rfl⟩
noncomputable def rng3 (i j c : Int) : Option (List D) := Classical.choose (rng3_ex i j c)
theorem rng3_eq (i j c : Int) : rng3 i j c = if c ≠ 0 ∧ c.natAbs < 1073741824 ∧ Builtin.Range.small i j c = true ∧ 0 ≤ Builtin.Range.rangeSize i j c then some (rangeC i c (Builtin.Range.rangeSize i j c).toNat) else none := Classical.choose_spec (rng3_ex i j c)
noncomputable def iRange3 (m : S → Res (List D)) : S → Res (List D) := fun s => (m s).bind fun ds s1 => match ds with
  | [.int i, .int j, .int c] => (match rng3 i j c with
    | some l => .ok l s1
    | none => .stuck)
  | _ => .stuck
theorem walk_rngC {K : PySem.W.Frag} {g : G} {lo c : Int} {n : Nat} : Walk K (Itc lo c n) (rangeC lo c n) g := by
  intro g' s' σ' H' l ok
  refine ⟨by rw [rangeC_len]; exact Nat.le_refl _, fun i d e => ?_⟩
  obtain ⟨h1, rfl⟩ := rangeC_get n lo c i d e
  refine ⟨h1, fun x H'' ⟨e1, e2⟩ => ?_⟩
  subst e1 e2
  exact ⟨g', Step.refl _ _, SlKeep.refl _, ok, .int _⟩
section
variable {X : Cx} {W : WX} {tg a b c : Expr} {m : S → Res (List D)} {p pos : Pos}
theorem mi_range3 (ha : MA X W [a, b, c] m) (hg : Gl X "range") (hm : X.mg "range" = none) (hs : starEach [a, b, c] X.env = (false, eval a X.env) :: starEach [b, c] X.env := by rfl) (hpl : (backTo pos (starEach [b, c] X.env)).any (·.1) = false := by rfl) : MIt X W tg (.Call (.Name "range" p) [a, b, c] [] pos) (iRange3 m) := by
  refine pi_imp (pi_range3 hg hm ha hs hpl) fun σ H R h => ?_
  obtain ⟨g, s, ok, h⟩ := h
  refine ⟨g, s, ok, (PostE.bind h).mono fun ds g1 s1 H1 t1 k1 o1 h1 vs rs => ?_⟩
  split at h1
  · cases rs with
    | cons r1 rs =>
      cases rs with
      | cons r2 rs =>
        cases rs with
        | cons r3 rs =>
          cases rs
          cases r1; cases r2; cases r3
          split at h1
          · rename_i hz
            rw [rng3_eq] at hz
            split at hz
            · rename_i hz2
              cases hz
              exact ⟨_, _, _, _, rfl, ⟨hz2.1, hz2.2.1, hz2.2.2.1, by have := hz2.2.2.2; omega⟩, PostE.done h1 o1 _ walk_rngC⟩
            · cases hz
          · exact h1.elim
  · exact h1.elim
end
theorem rng3_up {i j c : Int} (h0 : -1000000 ≤ i) (h1 : i ≤ 1000000) (h2 : -1000000 ≤ j) (h3 : j ≤ 1000000) (h4 : 0 < c) (h5 : c ≤ 1000000) : rng3 i j c = some (rangeC i c (if i < j then (j - i - 1) / c + 1 else 0).toNat) := by
  have e : Builtin.Range.rangeSize i j c = if i < j then (j - i - 1) / c + 1 else 0 := by unfold Builtin.Range.rangeSize; rw [if_pos h4]
  have q : i < j → 0 ≤ (j - i - 1) / c ∧ (j - i - 1) / c * c ≤ j - i - 1 ∧ (j - i - 1) / c ≤ j - i - 1 := fun h =>
    ⟨Int.ediv_nonneg (by omega) (by omega), Int.ediv_mul_le _ (by omega), Int.ediv_le_self _ (by omega)⟩
  rw [rng3_eq, e, if_pos]
  refine ⟨by omega, by omega, ?_, by split; (rename_i h; have := (q h).1; omega); omega⟩
  unfold Builtin.Range.small
  rw [e]
  simp only [Builtin.Range.rangeFitsLong, Bool.and_eq_true, Bool.or_eq_true, decide_eq_true_eq, beq_iff_eq, h4, if_true]
  by_cases h : i < j
  · obtain ⟨q1, q2, q3⟩ := q h
    simp only [h, if_true]
    generalize (j - i - 1) / c = z at q1 q2 q3 ⊢
    refine ⟨⟨⟨⟨⟨?_, ?_⟩, ?_, ?_⟩, ?_, ?_⟩, ?_, ?_⟩, .inr ⟨?_, ?_⟩⟩ <;> omega
  · simp only [h, if_false]
    refine ⟨⟨⟨⟨⟨?_, ?_⟩, ?_, ?_⟩, ?_, ?_⟩, ?_, ?_⟩, .inl ?_⟩ <;> first | omega | rfl | simp
theorem rng3_down {i j : Int} (h0 : -1000000 ≤ i) (h1 : i ≤ 1000000) (h2 : -1000000 ≤ j) (h3 : j ≤ 1000000) : rng3 i j (-1) = some (rangeC i (-1) (i - j).toNat) := by
  rw [rng3_eq, PySem.W.rangeSize_downNat, if_pos ⟨by omega, by decide, PySem.W.small_down (by omega) (by omega) (by omega) (by omega), by omega⟩]
  congr 2
end MI
/-! # Targets in one another, dicts, sorting -/
namespace MI
open PySem PySem.Spec PyProof.Rows L2

/-! ### targets in one another -/
def tgsNil : List D → S → Option S := fun ds s => match ds with
  | [] => some s
  | _ => none
def tgsCons (t : D → S → Option S) (ts : List D → S → Option S) : List D → S → Option S := fun ds s => match ds with
  | d :: ds => (match t d s with
    | some s1 => ts ds s1
    | none => none)
  | [] => none
def tgT (ts : List D → S → Option S) : D → S → Option S := fun d s => match d with
  | .tup ds => ts ds s
  | .lst ds => ts ds s
  | _ => none
theorem setAll_app : ∀ {is js : List Nat} {ws us : List V} {σ : L2.St}, is.length = ws.length → setAll σ (is ++ js) (ws ++ us) = setAll (setAll σ is ws) js us
  | [], js, [], us, σ, _ => rfl
  | i :: is, js, w :: ws, us, σ, h => by
    show setAll (σ.set i (some w)) (is ++ js) (ws ++ us) = _
    exact setAll_app (by simpa using h)
  | [], _, _ :: _, _, _, h => by simp at h
  | _ :: _, _, [], _, _, h => by simp at h
def MGk2 (K : PySem.W.Frag) (gt : TG) (is : List Nat) (t : D → S → Option S) : Prop :=
  ∀ g s σ H v d s', Ok K g s σ H → Rep K g v d → t d s = some s' → ∃ ws, is.length = ws.length ∧ Ok K g s' (setAll σ is ws) H ∧ ∀ Q : L2.St → Hp → Prop, Q (setAll σ is ws) H → gt v σ H Q
def MGks (K : PySem.W.Frag) (n : Nat) (gt : TGs) (is : List Nat) (t : List D → S → Option S) : Prop :=
  ∀ g s σ H vs ds s', Ok K g s σ H → RepL K g vs ds → t ds s = some s' → ∃ ws, is.length = ws.length ∧ vs.length = n ∧ Ok K g s' (setAll σ is ws) H ∧ ∀ Q : L2.St → Hp → Prop, Q (setAll σ is ws) H → gt vs σ H Q
structure MG2 (X : Cx) (tg : Expr) (gt : TG) (is : List Nat) (t : D → S → Option S) : Prop where
  pg : PG X tg gt
  ok : MGk2 X.K gt is t
structure MGs (X : Cx) (es : List Expr) (n : Nat) (gt : TGs) (is : List Nat) (t : List D → S → Option S) : Prop where
  pg : PGs X es gt
  ok : MGks X.K n gt is t
theorem MG2.mg {X : Cx} {tg : Expr} {gt : TG} {is : List Nat} {t : D → S → Option S} (h : MG2 X tg gt is t) : MG X tg gt is t :=
  ⟨h.pg, fun g s σ H v d s' ok r e => by obtain ⟨ws, _, o, q⟩ := h.ok g s σ H v d s' ok r e; exact ⟨ws, o, q⟩⟩
section
variable {X : Cx} {W : WX} {e : Expr} {es : List Expr} {me : M} {pos : Pos} {gt : TG} {gts : TGs} {is js : List Nat} {t : D → S → Option S} {ts : List D → S → Option S} {n : Nat}
theorem mg2_name {i : Nat} {x : Str} (hN : X.N.Nodup) (hi : X.N[i]? = some x := by rfl) (hx : L2.Loc X.env.scope x := by first | exact Or.inl rfl | exact Or.inr rfl) (hf : X.fn x = true ∨ X.env.scope.names.lookup x = some .local := by first | exact .inl rfl | exact .inr rfl) :
    MG2 X (.Name x pos) (gName i) [i] (tgName i) := ⟨pg_name hN hi hx hf, fun g s σ H v d s' ok r e => by
  simp only [tgName, MI.assign] at e
  split at e
  · rename_i hl
    cases e
    exact ⟨[v], rfl, ok.setVal r hl, fun Q q => q⟩
  · cases e⟩
theorem mgs2_nil : MGs X [] 0 gNil [] tgsNil := ⟨pgs_nil, fun g s σ H vs ds s' ok r e => by
  cases r with
  | nil => cases e; exact ⟨[], rfl, rfl, ok, fun Q q => ⟨rfl, q⟩⟩
  | cons _ _ => cases e⟩
theorem mgs2_cons (h1 : MG2 X e gt is t) (h2 : MGs X es n gts js ts) (hs : (assignEach (e :: es) X.env).map (·.2) = PySem.assign e X.env :: (assignEach es X.env).map (·.2) := by rfl) :
    MGs X (e :: es) (n + 1) (gCons gt gts) (is ++ js) (tgsCons t ts) := ⟨pgs_cons h1.pg h2.pg hs, fun g s σ H vs ds s' ok r e => by
  cases r with
  | nil => cases e
  | @cons v vs d ds r1 r2 =>
    have e' : (match t d s with
      | some s1 => ts ds s1
      | none => none) = some s' := e
    cases e1 : t d s with
    | none => rw [e1] at e'; cases e'
    | some s1 =>
      rw [e1] at e'
      obtain ⟨ws, l1, o1, q1⟩ := h1.ok g s σ H v d s1 ok r1 e1
      obtain ⟨us, l2, l3, o2, q2⟩ := h2.ok g s1 _ H vs ds s' o1 r2 e'
      refine ⟨ws ++ us, by rw [List.length_append, List.length_append, l1, l2], by rw [List.length_cons, l3], by rw [setAll_app l1]; exact o2, fun Q q => ?_⟩
      rw [setAll_app l1] at q
      exact ⟨v, vs, rfl, q1 _ (q2 Q q)⟩⟩
theorem pg_or {tg : Expr} {t t' : TG} (h : PG X tg t) (h' : PG X tg t') : PG X tg (fun v σ H Q => t v σ H Q ∨ t' v σ H Q) :=
  ⟨fun pins s σ H v u Q I r q => q.elim (h.run pins s σ H v u Q I r) (h'.run pins s σ H v u Q I r)⟩
theorem mg2_tup {k : Nat} (hc : X.calm = true) (h : MGs X es n gts is ts) (hn : (assignEach es X.env).length = n := by rfl) (hst : (assignEach es X.env).findIdx? (·.1) = none := by rfl) :
    MG2 X (.Tuple es k pos) (fun v σ H Q => gTup X.K n gts v σ H Q ∨ gLst X.K n gts v σ H Q) is (tgT ts) := ⟨pg_or (pg_tup hc h.pg hn hst) (pg_lst hc h.pg hn hst), fun g s σ H v d s' ok r e => by
  unfold tgT at e
  split at e
  · cases r with
    | tup hq rl =>
      obtain ⟨ws, l1, l2, o, q⟩ := h.ok g s σ H _ _ s' ok rl e
      exact ⟨ws, l1, o, fun Q z => .inl ⟨_, _, rfl, sqT_mono ok.sub hq, l2, q Q z⟩⟩
  · cases r with
    | lst hq rl =>
      obtain ⟨ws, l1, l2, o, q⟩ := h.ok g s σ H _ _ s' ok rl e
      exact ⟨ws, l1, o, fun Q z => .inr ⟨_, _, rfl, .of (ok.sub _ _ hq), l2, q Q z⟩⟩
  · cases e⟩
def mUnpT (t : D → S → Option S) (m : M) : S → Res Out := fun s => (mLeak m s).bind fun d s1 => match t d s1 with
  | some s2 => .ok .nx s2
  | none => .stuck
theorem ms_unpT {tg : Expr} (he : ME X W e me) (hg : MG2 X tg gt is t)
    (hs : swapsWithSole [tg] e pos.line X.env = pure false := by rfl) (hw : swappedStores [tg] e X.env = pure none := by rfl)
    (h1 : (assignEach [tg] X.env).map (·.2) = [PySem.assign tg X.env] := by rfl) :
    MS X W (.Assign [tg] e pos) (mUnpT t me) := by
  refine ps_imp (ps_asg he hg.pg hs hw h1) fun D σ H ⟨g, s, ok, h⟩ => ?_
  refine tM_leak ok (PostS.bind h) fun d g1 s1 H1 v t1 k1 o1 rv h1 => ?_
  split at h1
  · rename_i s2 e2
    obtain ⟨ws, _, o2, q⟩ := hg.ok g1 s1 σ H1 v d s2 o1 rv e2
    exact q _ (h1 _ g1 H1 (Step.refl _ _) o2)
  · exact h1.elim
end

/-! ### dicts -/
def keyOf : D → Option Key
  | .int i => some (.inl i)
  | .str x => some (.inr x)
  | _ => none
theorem keyOf_ok {K : PySem.W.Frag} {g : G} {v : V} {d : D} {k : Key} (r : Rep K g v d) (e : keyOf d = some k) : v = kV k := by
  cases r with
  | int i => cases e; rfl
  | str x => cases e; rfl
  | _ => cases e
def dval (kvs : List (Key × D)) (k : Key) : Option D := (kvs.find? fun kv => decide (kv.1 = k)).map (·.2)
def dput (kvs : List (Key × D)) (k : Key) (v : D) : List (Key × D) :=
  if (kvs.any fun kv => decide (kv.1 = k)) = true then kvs.map (fun kv => if kv.1 = k then (kv.1, v) else kv) else kvs ++ [(k, v)]
section
variable {K : PySem.W.Frag} {g : G}
theorem RepK.val : ∀ {vs : List (Key × V)} {ds : List (Key × D)} (k : Key), RepK K g vs ds → (∀ d, dval ds k = some d → ∃ v, valV vs k = some v ∧ Rep K g v d) ∧ (dval ds k = none → valV vs k = none)
  | _, _, k, .nil => ⟨fun d e => (nomatch e), fun _ => rfl⟩
  | _, _, k, .cons (k := j) (v := v) (vs := vs) (d := d) (ds := ds) a b => by
    by_cases h : j = k
    · subst h
      have e1 : dval ((j, d) :: ds) j = some d := by simp [dval]
      have e2 : valV ((j, v) :: vs) j = some v := valV_pos rfl
      exact ⟨fun z e => by rw [e1] at e; cases e; exact ⟨v, e2, a⟩, fun e => by rw [e1] at e; cases e⟩
    · have e1 : dval ((j, d) :: ds) k = dval ds k := by simp [dval, h]
      have e2 : valV ((j, v) :: vs) k = valV vs k := valV_neg h
      rw [e1, e2]
      exact RepK.val k b
theorem RepK.any : ∀ {vs : List (Key × V)} {ds : List (Key × D)} (k : Key), RepK K g vs ds → (vs.any fun kv => decide (kv.1 = k)) = ds.any fun kv => decide (kv.1 = k)
  | _, _, k, .nil => rfl
  | _, _, k, .cons (k := j) a b => by rw [List.any_cons, List.any_cons, RepK.any k b]
theorem RepK.repl {y : V} {x : D} (r : Rep K g y x) : ∀ {vs : List (Key × V)} {ds : List (Key × D)} (k : Key), RepK K g vs ds → RepK K g (vs.map fun kv => if kv.1 = k then (kv.1, y) else kv) (ds.map fun kv => if kv.1 = k then (kv.1, x) else kv)
  | _, _, k, .nil => .nil
  | _, _, k, .cons (k := j) (v := v) (vs := vs) (d := d) (ds := ds) a b => by
    rw [List.map_cons, List.map_cons]
    by_cases h : j = k
    · simp only [h, if_true]; exact .cons r (RepK.repl r k b)
    · simp only [h, if_false]; exact .cons a (RepK.repl r k b)
theorem RepK.snoc {y : V} {x : D} (r : Rep K g y x) (k : Key) : ∀ {vs : List (Key × V)} {ds : List (Key × D)}, RepK K g vs ds → RepK K g (vs ++ [(k, y)]) (ds ++ [(k, x)])
  | _, _, .nil => .cons r .nil
  | _, _, .cons a b => .cons a (RepK.snoc r k b)
theorem RepK.put {vs : List (Key × V)} {ds : List (Key × D)} {y : V} {x : D} (h : RepK K g vs ds) (k : Key) (r : Rep K g y x) : RepK K g (putK vs k y) (dput ds k x) := by
  unfold putK dput
  rw [h.any k]
  by_cases z : (ds.any fun kv => decide (kv.1 = k)) = true
  · rw [if_pos z, if_pos z]; exact RepK.repl r k h
  · rw [if_neg z, if_neg z]; exact RepK.snoc r k h
theorem RepK.keys : ∀ {vs : List (Key × V)} {ds : List (Key × D)}, RepK K g vs ds → vs.map (·.1) = ds.map (·.1)
  | _, _, .nil => rfl
  | _, _, .cons a b => by rw [List.map_cons, List.map_cons, RepK.keys b]
end
/-- {} -/
def mDNew : M := fun s => .ok (.new (.dic [])) s
/-- d[k] -/
def mDGet (d k : M) : M := fun s => (mSettle d s).bind fun r s1 => (mLeak k s1).bind fun y s2 => match asDic s2 r, keyOf y with
  | some kvs, some k => (match dval kvs k with
    | some x => .ok (.d x) s2
    | none => .stuck)
  | _, _ => .stuck
/-- d.get(k, x) -/
def mDGet2 (d k x : M) : M := fun s => (mSettle d s).bind fun r s1 => match asDic s1 r with
  | some _ => (mLeak k s1).bind fun y s2 => (mLeak x s2).bind fun z s3 => (match asDic s3 r, keyOf y with
    | some kvs, some k => .ok (.d ((dval kvs k).getD z)) s3
    | _, _ => .stuck)
  | none => .stuck
/-- d[k] = v -/
def mDPut (v o k : M) : S → Res Out := fun s => (mLeak v s).bind fun d s1 => (o s1).bind fun r s2 => match locOf r with
  | some l => (match cellOf s2 l with
    | some _ => (mLeak k s2).bind fun y s3 => (match cellOf s3 l, keyOf y with
      | some (.dic kvs), some k => if kvs.length < sizeLine then .ok .nx (setCell s3 l (.dic (dput kvs k d))) else .stuck
      | _, _ => .stuck)
    | _ => .stuck)
  | none => .stuck
theorem hu1 {A : Around} (h : A.units + 64 < cLine) : A.units + 1 < cLine := by omega
section
variable {X : Cx} {W : WX} {d k x o e : Expr} {md mk mx mo me : M} {pos pos' apos cpos : Pos}
theorem me_dnew : ME X W (.Dict [] [] pos) mDNew := pe_imp pe_dnewK fun σ H Q ⟨g, s, ok, h⟩ p hp => kE_new h ok hp ⟨[], upd_same, .nil⟩
theorem me_dget (hu : X.A.units + 64 < cLine) (hd : ME X W d md) (hk : ME X W k mk) (hs : NoSl k := by exact fun _ _ => rfl) : ME X W (.Subscript d k pos) (mDGet md mk) := by
  refine pe_imp (pe_dget (hu1 hu) hd hk hs) fun σ H Q ⟨g, s, ok, h⟩ => ?_
  refine tM_settle ok (PostE.bind h) fun r g1 s1 H1 v t1 k1 o1 rv nn h1 => ?_
  refine tM_leak o1 (PostE.bind h1) fun y g2 s2 H2 u t2 k2 o2 ru h2 => ?_
  split at h2
  · rename_i kvs key e1 e2
    split at h2
    · rename_i z e3
      obtain ⟨a, vs, rfl, hq, rk⟩ := asDic_ok o2 (rv.held nn t2 k2) e1
      obtain ⟨w, hw, rw'⟩ := (rk.val key).1 z e3
      refine ⟨a, w, rfl, ?_, kE_d h2 o2 rw'⟩
      rw [keyOf_ok ru e2, ← hw]
      exact .k hq
    · exact h2.elim
  · exact h2.elim
theorem me_dget2 (hu : X.A.units + 64 < cLine) (hd : ME X W d md) (hk : ME X W k mk) (hx : ME X W x mx) (m : M2 X d "get" apos k x cpos := by exact ⟨rfl, rfl, rfl, rfl⟩) : ME X W (.Call (.Attribute d "get" apos) [k, x] [] cpos) (mDGet2 md mk mx) := by
  refine pe_imp (L2.pe_dget2 (hu1 hu) hd hk hx m) fun σ H Q ⟨g, s, ok, h⟩ => ?_
  refine tM_settle ok (PostE.bind h) fun r g1 s1 H1 v t1 k1 o1 rv nn h1 => ?_
  split at h1
  · rename_i kvs0 e0
    obtain ⟨a, vs0, rfl, hq0, _⟩ := asDic_ok o1 rv e0
    refine ⟨a, rfl, .inl ⟨vs0, .inl hq0⟩, ?_⟩
    refine tM_leak o1 (PostE.bind h1) fun y g2 s2 H2 u t2 k2 o2 ru h2 => ?_
    refine tM_leak o2 (PostE.bind h2) fun z g3 s3 H3 w t3 k3 o3 rw' h3 => ?_
    split at h3
    · rename_i kvs key e1 e2
      obtain ⟨a', vs, ea, hq, rk⟩ := asDic_ok o3 (RepRV.held (s := s2) (s' := s3) nn t3 k3 (RepRV.held (s := s1) (s' := s2) nn t2 k2 rv)) e1
      cases ea
      refine ⟨valV vs key, ?_, ?_⟩
      · rw [keyOf_ok ru e2]; exact .k hq
      · cases e3 : dval kvs key with
        | none =>
          rw [(rk.val key).2 e3]
          rw [e3] at h3
          exact kE_d h3 o3 rw'
        | some q =>
          obtain ⟨b, hb, rb⟩ := (rk.val key).1 q e3
          rw [hb]
          rw [e3] at h3
          exact kE_d h3 o3 rb
    · exact h3.elim
  · exact h1.elim
theorem ms_dput (hu : X.A.units + 64 < cLine) (hv : ME X W e me) (ho : ME X W o mo) (hk : ME X W k mk) (hs : swapsWith e (some (.Subscript o k pos')) pos.line X.env = pure false := by rfl) :
    MS X W (.Assign [.Subscript o k pos'] e pos) (mDPut me mo mk) := by
  refine ps_imp (ps_dput (hu1 hu) ho hk hv hs) fun D σ H h => ?_
  obtain ⟨g, s, ok, h⟩ := h
  refine tM_leak ok (k := fun d g1 s1 H1 => PostS X.K W g1 s1 H1 D ((mo s1).bind fun r s2 => match locOf r with
  | some l => (match cellOf s2 l with
    | some _ => (mLeak mk s2).bind fun y s3 => (match cellOf s3 l, keyOf y with
      | some (.dic kvs), some k => if kvs.length < sizeLine then .ok .nx (setCell s3 l (.dic (dput kvs k d))) else .stuck
      | _, _ => .stuck)
    | _ => .stuck)
  | none => .stuck)) (PostS.bind h) fun d g1 s1 H1 v t1 k1 o1 rv h1 => ?_
  refine ⟨g1, s1, o1, (PostS.bind h1).mono fun r g2 s2 H2 t2 k2 o2 h2 u ru => ?_⟩
  split at h2
  · rename_i l e1
    have hu := locOf_ok ru e1
    subst hu
    split at h2
    · rename_i w e2
      refine tM_leak o2 (PostS.bind h2) fun dk g3 s3 H3 y t3 k3 o3 ry h3 => ?_
      have el := loc_held o2 e2 t3 k3
      split at h3
      · rename_i kvs key e3 e4
        split at h3
        · rename_i hz
          obtain ⟨vs, hvs, rvs⟩ := (o3.cell l _ e3).2
          have rd := (rv.mono t2.le).mono t3.le
          obtain ⟨o4, t4⟩ := o3.change (o' := .dic (dput kvs key d)) (ho := .dK (putK vs key v)) e3 ⟨_, upd_same, rvs.put key rd⟩
          refine ⟨_, upd H3 (g3.adr l) (.dK (putK vs key v)), rfl, ?_, h3 _ _ _ t4 o4⟩
          rw [keyOf_ok ry e4, ← el]
          exact .k hvs (by rw [RepK.length rvs]; exact hz)
        · exact h3.elim
      · exact h3.elim
    · exact h2.elim
  · exact h2.elim
end
end MI
namespace MI
open PySem PySem.Spec PyProof.Rows L2
/-! ### sorting -/
theorem perm_sorted_eq {α : Type} {le : α → α → Prop} (anti : ∀ a b, le a b → le b a → a = b) : ∀ {l m : List α}, l.Perm m → l.Pairwise le → m.Pairwise le → l = m
  | [], m, p, _, _ => (List.nil_perm.mp p).symm
  | a :: l, [], p, _, _ => absurd p.length_eq (by simp)
  | a :: l, b :: m, p, hl, hm => by
    obtain ⟨h1, h2⟩ := List.pairwise_cons.mp hl
    obtain ⟨h3, h4⟩ := List.pairwise_cons.mp hm
    have e : a = b := by
      have m1 : a ∈ b :: m := p.mem_iff.mp List.mem_cons_self
      have m2 : b ∈ a :: l := p.mem_iff.mpr List.mem_cons_self
      rcases List.mem_cons.mp m1 with m1 | m1
      · exact m1
      · rcases List.mem_cons.mp m2 with m2 | m2
        · exact m2.symm
        · exact anti a b (h1 b m2) (h3 a m1)
    subst e
    rw [perm_sorted_eq anti (List.Perm.cons_inv p) h2 h4]
def leS (x y : Str) : Bool := !strLt y x
theorem leS_iff (x y : Str) : leS x y = true ↔ x.cps.toList ≤ y.cps.toList := by
  unfold leS strLt
  rw [Bool.not_eq_true', decide_eq_false_iff_not]
  exact List.not_lt
theorem str_eq {x y : Str} (h : x.cps.toList = y.cps.toList) : x = y := by
  obtain ⟨⟨a⟩⟩ := x
  obtain ⟨⟨b⟩⟩ := y
  simp only at h
  rw [h]
theorem leS_anti (x y : Str) (h : leS x y = true) (h2 : leS y x = true) : x = y := str_eq (List.le_antisymm ((leS_iff x y).mp h) ((leS_iff y x).mp h2))
theorem leS_trans (x y z : Str) (h : leS x y = true) (h2 : leS y z = true) : leS x z = true := (leS_iff x z).mpr (List.le_trans ((leS_iff x y).mp h) ((leS_iff y z).mp h2))
theorem leS_total (x y : Str) : (leS x y || leS y x) = true := by
  rw [Bool.or_eq_true, leS_iff, leS_iff]
  exact List.le_total _ _
def sortS (l : List Str) : List Str := l.mergeSort leS
theorem sortS_perm (l : List Str) : (sortS l).Perm l := List.mergeSort_perm l leS
theorem sortS_sorted (l : List Str) : (sortS l).Pairwise fun x y => leS x y = true := List.pairwise_mergeSort leS_trans leS_total l
theorem sortedS_pw : ∀ {l : List Str}, sortedS l = true → l.Pairwise fun x y => leS x y = true := by
  have key : ∀ (l : List Str) (p : Str), risingS p l = true → (∀ y ∈ l, leS p y = true) ∧ l.Pairwise fun x y => leS x y = true := by
    intro l
    induction l with
    | nil => intro p _; exact ⟨fun _ h => (nomatch h), List.Pairwise.nil⟩
    | cons x r ih =>
      intro p h
      unfold risingS at h
      obtain ⟨h1, h2⟩ := Bool.and_eq_true_iff.mp h
      obtain ⟨h3, h4⟩ := ih x h2
      have hp : leS p x = true := by unfold leS strLt; rw [ltCps_eq] at h1; exact h1
      refine ⟨fun y m => ?_, List.pairwise_cons.mpr ⟨h3, h4⟩⟩
      rcases List.mem_cons.mp m with rfl | m
      · exact hp
      · exact leS_trans p x y hp (h3 y m)
  intro l h
  cases l with
  | nil => exact List.Pairwise.nil
  | cons x r => obtain ⟨h3, h4⟩ := key r x h; exact List.pairwise_cons.mpr ⟨h3, h4⟩
theorem sortS_uniq {l m : List Str} (p : m.Perm l) (h : sortedS m = true) : m = sortS l :=
  perm_sorted_eq (le := fun x y => leS x y = true) leS_anti (p.trans (sortS_perm l).symm) (sortedS_pw h) (sortS_sorted l)
def sortI (l : List Int) : List Int := l.mergeSort fun i j => decide (i ≤ j)
theorem sortI_perm (l : List Int) : (sortI l).Perm l := List.mergeSort_perm l _
theorem sortI_sorted (l : List Int) : (sortI l).Pairwise fun x y => x ≤ y := by
  have := List.pairwise_mergeSort (le := fun i j : Int => decide (i ≤ j)) (fun a b c h1 h2 => by simp at *; omega) (fun a b => by simp; omega) l
  exact this.imp fun h => by simpa using h
theorem sortI_uniq {l m : List Int} (p : m.Perm l) (h : m.Pairwise fun x y => x ≤ y) : m = sortI l :=
  perm_sorted_eq (le := fun x y : Int => x ≤ y) (fun a b h1 h2 => by omega) (p.trans (sortI_perm l).symm) h (sortI_sorted l)
def keysS : List (Key × D) → Option (List Str)
  | [] => some []
  | (.inr x, _) :: r => (keysS r).map (x :: ·)
  | _ :: _ => none
theorem keysS_ok : ∀ {kvs : List (Key × D)} {ks : List Str}, keysS kvs = some ks → kvs.map (·.1) = ks.map Sum.inr
  | [], ks, e => by cases e; rfl
  | (.inr x, d) :: r, ks, e => by
    simp only [keysS] at e
    obtain ⟨k', e1, rfl⟩ := Option.map_eq_some_iff.mp e
    rw [List.map_cons, List.map_cons, keysS_ok e1]
  | (.inl x, d) :: r, ks, e => by cases e
def fSorted : S → RV → Res RV := fun s r => match asD s r with
  | some (.dic kvs) => (match keysS kvs with
    | some ks => if ks.length < 64 then .ok (.new (.lst ((sortS ks).map .str))) s else .stuck
    | none => .stuck)
  | some (.lst xs) => (match strsOf xs with
    | some ks => if ks.length < 64 then .ok (.new (.lst ((sortS ks).map .str))) s else .stuck
    | none => (match intsOf xs with
      | some is => .ok (.new (.lst ((sortI is).map .int))) s
      | none => .stuck))
  | _ => .stuck
theorem intsOf_ok {K : PySem.W.Frag} {g : G} : ∀ {vs : List V} {ds : List D} {bs : List Int}, RepL K g vs ds → intsOf ds = some bs → vs = bs.map V.int
  | _, _, _, .nil, e => by cases e; rfl
  | _, _, bs, .cons (d := d) a b, e => by
    cases d with
    | int k =>
      cases a
      simp only [intsOf] at e
      obtain ⟨cs, e1, rfl⟩ := Option.map_eq_some_iff.mp e
      rw [intsOf_ok b e1]; rfl
    | _ => cases e
theorem repL_strs {K : PySem.W.Frag} {g : G} : ∀ ks : List Str, RepL K g (ks.map V.str) (ks.map D.str)
  | [] => .nil
  | k :: ks => .cons (.str k) (repL_strs ks)
theorem repL_ints {K : PySem.W.Frag} {g : G} : ∀ ks : List Int, RepL K g (ks.map V.int) (ks.map D.int)
  | [] => .nil
  | k :: ks => .cons (.int k) (repL_ints ks)
section
variable {X : Cx} {W : WX} {a : Expr} {ma : M} {pos p : Pos}
theorem cr_sortedA (hc : X.calm = true) : CallR X (.builtin "sorted") (fun xs H Q => rSortedS X.K xs H Q ∨ rSortedI X.K xs H Q ∨ (∃ (a : Addr) (kvs : List (Key × V)) (ks : List Str), xs = [.ref a] ∧ Rd H a (.dK kvs) ∧ kvs.map (·.1) = ks.map Sum.inr ∧ ks.length < 64 ∧
    ∀ ys p, ys.Perm ks → sortedS ys = true → H p = none → Q (.ref p) (upd H p (.lst (ys.map V.str))))) := by
  intro pins s σ H xs us Q I r h
  rcases h with h | h | h
  · exact cr_sortedS pins s σ H xs us Q I r h
  · exact cr_sortedI pins s σ H xs us Q I r h
  · exact call_sortedD hc pins s σ H xs us Q I r h
theorem me_sorted (hc : X.calm = true) (ha : ME X W a ma) (hg : Gl X "sorted") (hm : X.mg "sorted" = none) (hs : starEach [a] X.env = (false, eval a X.env) :: starEach [] X.env := by rfl) : ME X W (.Call (.Name "sorted" p) [a] [] pos) (mFn1 fSorted ma) := by
  refine pe_imp (pe_callB (cr_sortedA hc) hg hm (by decide +kernel) (pa_cons ha pa_nil hs) (he := hs)) fun σ H Q ⟨g, s, ok, h⟩ => ma_one (fun σ g s H Q v rv ok rr h => ?_) ok h
  unfold fSorted at h
  split at h
  · rename_i kvs e
    obtain ⟨g1, l, sb, rp⟩ := asD_ok ok (GLe.refl g) ok.sub rr e
    cases rp with
    | @dic b vs _ h1 r1 =>
      split at h
      · rename_i ks e2
        split at h
        · rename_i h64
          refine .inr (.inr ⟨b, vs, ks, rfl, .inl (sb _ _ h1), r1.keys.trans (keysS_ok e2), h64, fun ys p hp hy hn => ?_⟩)
          have := sortS_uniq hp hy
          subst this
          exact kE_new h ok hn ⟨_, upd_same, repL_strs _⟩
        · exact h.elim
      · exact h.elim
  · rename_i xs e
    obtain ⟨g1, l, sb, rp⟩ := asD_ok ok (GLe.refl g) ok.sub rr e
    cases rp with
    | @lst b vs _ h1 r1 =>
      split at h
      · rename_i ks e2
        split at h
        · rename_i h64
          have ev := strsOf_ok r1 e2
          subst ev
          refine .inl ⟨b, ks, rfl, .of (sb _ _ h1), h64, fun ys p hp hy hn => ?_⟩
          have := sortS_uniq hp hy
          subst this
          exact kE_new h ok hn ⟨_, upd_same, repL_strs _⟩
        · exact h.elim
      · split at h
        · rename_i is e2
          have ev := intsOf_ok r1 e2
          subst ev
          refine .inr (.inl ⟨b, is, rfl, .of (sb _ _ h1), fun ys p hp hy hn => ?_⟩)
          have := sortI_uniq hp hy
          subst this
          exact kE_new h ok hn ⟨_, upd_same, repL_ints _⟩
        · exact h.elim
  · exact h.elim
end
end MI
/-! # Sets of ints and texts made of a list, sorted and counted -/
namespace MI
open PySem PySem.Spec PyProof.Rows L2
/-- the key of an entry -/
def kyE (e : Int × Value) : Key := match e.2 with
  | .int i _ => .inl i
  | .str x _ => .inr x
  | _ => .inl 0
def GdK (w : World) (e : Int × Value) : Prop := ∃ k, keyIs k e.2 = true ∧ e.1 = keyH w k
/-- a key put to keys -/
def insK (l : List Key) (k : Key) : List Key := if (l.any fun j => decide (j = k)) = true then l else k :: l
theorem insK_in {l : List Key} {k : Key} (h : k ∈ l) : insK l k = l := if_pos (List.any_eq_true.mpr ⟨k, h, decide_eq_true rfl⟩)
theorem insK_out {l : List Key} {k : Key} (h : k ∉ l) : insK l k = k :: l := if_neg fun z => by
  obtain ⟨j, hj, e⟩ := List.any_eq_true.mp z
  rw [of_decide_eq_true e] at hj
  exact h hj
/-- the set of the keys l at a, each once; its table rises and can be walked -/
def KSet (w : World) (h : Heap) (a : Addr) (l : List Key) : Prop :=
  ∃ o es ep t, h.get? a = some o ∧ o.ExactSet ∧ o.data = .set es ep t ∧ (∀ e ∈ es.toList, GdK w e) ∧ (es.toList.map kyE).Perm l ∧ l.Nodup ∧
    es.size < scanBound ∧ t.fits es.size = true ∧ Ris t.place.toList ∧ (w.params.followText "set-order" = true ∨ t.led = true)
theorem kyE_is {w : World} {e : Int × Value} (g : GdK w e) (k : Key) : keyIs k e.2 = true ↔ kyE e = k := by
  obtain ⟨k0, h, _⟩ := g
  unfold kyE
  rcases keyIs_shape h with ⟨i, t, rfl, hv⟩ | ⟨x, t, rfl, hv⟩
  · rw [hv]
    constructor
    · intro q
      rcases keyIs_shape q with ⟨j, u, rfl, e⟩ | ⟨y, u, rfl, e⟩
      · injection e with e1 _; rw [e1]
      · exact nomatch e
    · rintro rfl
      exact keyIs_int _ _
  · rw [hv]
    constructor
    · intro q
      rcases keyIs_shape q with ⟨j, u, rfl, e⟩ | ⟨y, u, rfl, e⟩
      · exact nomatch e
      · injection e with e1 _; rw [e1]
    · rintro rfl
      exact keyIs_str _ _
section
variable {P : Program} {w : World} {A : Around} {E : Value → Shared → Prop} {s : Shared} {a : Addr} {l : List Key}
theorem gdK_elems {es : List (Int × Value)} (g : ∀ e ∈ es, GdK w e) : ElemsOf (mixKind P w) es := fun e he => by
  obtain ⟨k, h1, h2⟩ := g e he
  refine ⟨⟨k, h1, h2⟩, ?_⟩
  rcases keyIs_shape h1 with ⟨i, t, _, hv⟩ | ⟨x, t, _, hv⟩ <;> rw [hv] <;> rfl
theorem KSet.at {h h' : Heap} (R : KSet w h a l) (k : ∀ o, h.get? a = some o → h'.get? a = some o) : KSet w h' a l := by
  obtain ⟨o, es, ep, t, ho, r⟩ := R
  exact ⟨o, es, ep, t, k o ho, r⟩
theorem ks_tail {g : Bool → Sem Unit} (hg : ∀ (b : Bool) (s₁ : Shared) (Q' : Unit → Shared → Prop), Q' () s₁ → wpAny (model P w) A (g b) Q' E s₁)
    {o : Obj} {es : Array (Int × Value)} {ep : Nat} {t : SetTable} (ho : s.heap.get? a = some o) (hex : o.ExactSet) (hd : o.data = .set es ep t)
    {es1 : Array (Int × Value)} {t2 : SetTable} {l' : List Key} (g1 : ∀ e ∈ es1.toList, GdK w e) (p1 : (es1.toList.map kyE).Perm l') (n1 : l'.Nodup)
    (hb1 : es1.size < scanBound) (hf2 : t2.fits es1.size = true) (hr : Ris t2.place.toList) (hl : w.params.followText "set-order" = true ∨ t2.led = true) {wasDummy : Bool} {R : Option Bool → Shared → Prop}
    (hR : ∀ h', Heap.SameBut a s.heap h' → KSet w h' a l' → R (some true) { s with heap := h' }) :
    wpAny (model P w) A (do
        storeSet a es1 t2
        if (!wasDummy && t2.tooFull) = true then do
            g (relayAll t2 es1 (SetTable.grown es1.size)).2.2
            storeSet a (relayAll t2 es1 (SetTable.grown es1.size)).1 (relayAll t2 es1 (SetTable.grown es1.size)).2.1
            pure (some true)
          else pure (some true)) R E s := by
  refine wpAny_bind (wpAny_storeSet_of ho hd ?_ (fits_of_scanBound hb1))
  have ho1 := store_at (es' := es1) (t' := t2) ho hd
  have sb1 := Heap.SameBut.update s.heap a (Obj.putSet es1 t2)
  split
  · have pm := relayAll_perm t2 es1 (SetTable.grown es1.size)
    have hf3 := relayAll_fits t2 es1 (SetTable.grown es1.size)
    have hr3 := relayAll_ris t2 es1 (SetTable.grown es1.size)
    have hl3 := relayAll_led t2 es1 (SetTable.grown es1.size)
    generalize relayAll t2 es1 (SetTable.grown es1.size) = Z at pm hf3 hr3 hl3 ⊢
    obtain ⟨es2, t3, gave⟩ := Z
    dsimp only at pm hf3 hr3 hl3 ⊢
    have hsz : es2.size = es1.size := by rw [← Array.length_toList, pm.length_eq, Array.length_toList]
    have hb2 : es2.size < scanBound := by rw [hsz]; exact hb1
    refine wpAny_bind (hg _ _ _ ?_)
    refine wpAny_bind (wpAny_storeSet_of ho1 rfl ?_ (fits_of_scanBound hb2))
    have ho2 := store_at (es' := es2) (t' := t3) ho1 rfl
    refine wpAny_pure (hR _ (sb1.trans (Heap.SameBut.update _ a _)) ?_)
    exact ⟨_, es2, _, t3, ho2, hex, rfl, fun e he => g1 e (pm.mem_iff.mp he), (pm.map kyE).trans p1, n1, hb2, hf3, hr3, hl.imp id fun z => by rw [hl3]; exact z⟩
  · exact wpAny_pure (hR _ sb1 ⟨_, es1, _, t2, ho1, hex, rfl, g1, p1, n1, hb1, hf2, hr, hl⟩)
theorem ks_add {k : Key} {u : Value} {Q : Bool → Shared → Prop} (hu : keyIs k u = true) (R : KSet w s.heap a l) (room : l.length + 1 < scanBound)
    (hQ : ∀ h' b, Heap.SameBut a s.heap h' → KSet w h' a (insK l k) → Q b { s with heap := h' }) :
    wpAny (model P w) A (setAddHashed a u ((mixKind P w).hash k)) Q E s := by
  obtain ⟨o, es, ep, t, ho, hex, hd, g, pl, nl, hb, hf, hr, hl⟩ := R
  have hkey : (mixKind P w).is k u = true := hu
  have hsc : u.scannable = true := by
    rcases keyIs_shape hu with ⟨i, t, _, hv⟩ | ⟨x, t, _, hv⟩ <;> rw [hv] <;> rfl
  have hel : ElemsOf (mixKind P w) es.toList := gdK_elems g
  unfold setAddHashed setAddHashedIn
  refine wpAny_holding (wpAny_bind (wpAny_setState_of ho hd hf ?_))
  dsimp only
  rw [byScan_of hsc hb hel]
  simp only [↓reduceIte]
  unfold setAddByScan
  refine wpAny_bind ?_
  refine wpAny_bind (wpAny_rule ?_)
  refine wpAny_bind (wpAny_setScan_of hkey ho hd hf hel ?_)
  cases hfi : List.findIdx? (fun e => (mixKind P w).is k e.2) es.toList with
  | some j =>
    dsimp only
    obtain ⟨hj, pj, _⟩ := List.findIdx?_eq_some_iff_getElem.mp hfi
    have hk : k ∈ l := by
      refine pl.mem_iff.mp (List.mem_map.mpr ⟨es.toList[j], List.getElem_mem hj, ?_⟩)
      exact (kyE_is (g _ (List.getElem_mem hj)) k).mp pj
    refine wpAny_pure (wpAny_pure ?_)
    have q := hQ s.heap false (Heap.SameBut.refl a s.heap) (by rw [insK_in hk]; exact ⟨o, es, ep, t, ho, hex, hd, g, pl, nl, hb, hf, hr, hl⟩)
    exact q
  | none =>
    dsimp only
    have hk : k ∉ l := fun z => by
      obtain ⟨e, he, q⟩ := List.mem_map.mp (pl.mem_iff.mpr z)
      have c := List.findIdx?_eq_none_iff.mp hfi e he
      have c' := (kyE_is (g e he) k).mpr q
      have c2 : keyIs k e.2 = false := c
      rw [c'] at c2
      cases c2
    have hgw : ∀ (b : Bool) {s₁ : Shared} {Q' : Unit → Shared → Prop}, Q' () s₁ → wpAny (model P w) A (match b with | true => rule "set.scan.the-table-gave-way" | false => pure ()) Q' E s₁ :=
      fun b s₁ Q' q => by cases b <;> first | exact wpAny_pure q | exact wpAny_rule q
    have pm := layNew_perm t es ((mixKind P w).hash k) u
    have hf1 := layNew_fits t es ((mixKind P w).hash k) u
    have hr1 := layNew_ris t es ((mixKind P w).hash k) u hr
    have hl1 := layNew_led t es ((mixKind P w).hash k) u
    generalize layNew t es ((mixKind P w).hash k) u = Z at pm hf1 hr1 hl1 ⊢
    obtain ⟨es1, t1, wasDummy, gave⟩ := Z
    dsimp only at pm hf1 hr1 hl1 ⊢
    rw [Array.toList_push] at pm
    have pc : es1.toList.Perm (((mixKind P w).hash k, u) :: es.toList) := pm.trans (List.perm_append_singleton _ _)
    have g0 : GdK w ((mixKind P w).hash k, u) := ⟨k, hu, rfl⟩
    have k0 : kyE ((mixKind P w).hash k, u) = k := (kyE_is g0 k).mp hu
    have pk : (es1.toList.map kyE).Perm (k :: l) := by
      have := pc.map kyE
      rw [List.map_cons, k0] at this
      exact this.trans (List.Perm.cons k pl)
    have g1 : ∀ e ∈ es1.toList, GdK w e := fun e he => by
      rcases List.mem_cons.mp (pc.mem_iff.mp he) with z | z
      · rw [z]; exact g0
      · exact g e z
    have hz : es.size = l.length := by rw [← Array.length_toList, ← pl.length_eq, List.length_map]
    have hsz : es1.size = l.length + 1 := by rw [← Array.length_toList, pc.length_eq, List.length_cons, Array.length_toList, hz]
    have hb1 : es1.size < scanBound := by rw [hsz]; exact room
    have hled : w.params.followText "set-order" = true ∨ t1.led = true := hl.imp id fun z => by rw [hl1]; exact z
    have fin : ∀ h', Heap.SameBut a s.heap h' → KSet w h' a (k :: l) → Q true { s with heap := h' } := fun h' sb r => hQ h' true sb (by rw [insK_out hk]; exact r)
    have nk : (k :: l).Nodup := List.nodup_cons.mpr ⟨hk, nl⟩
    refine wpAny_bind (hgw _ ?_)
    split
    · refine wpAny_bind ?_
      rw [hashByValue_scannable 8 hsc]
      refine wpAny_pure ?_
      refine ks_tail ?_ ho hex hd g1 pk nk hb1 ?_ ?_ ?_ ?_
      · intro b s₁ Q' q; cases b <;> first | exact wpAny_pure q | exact wpAny_rule q
      · first | (split <;> first | exact hf1 | exact SetTable.fits_plain_off hf1) | exact hf1
      · first | (split <;> exact hr1) | exact hr1
      · first | (split <;> exact hled) | exact hled
      · intro h' sb r; dsimp only; exact wpAny_pure (fin h' sb r)
    · refine wpAny_bind (wpAny_pure ?_)
      simp only [↓reduceIte]
      refine ks_tail ?_ ho hex hd g1 pk nk hb1 hf1 hr1 hled ?_
      · intro b s₁ Q' q; cases b <;> first | exact wpAny_pure q | exact wpAny_rule q
      · intro h' sb r; dsimp only; exact wpAny_pure (fin h' sb r)
/-- keys put one behind the other -/
def uniK (ks : List Key) : List Key := ks.foldl insK []
theorem insK_len (l : List Key) (k : Key) : (insK l k).length ≤ l.length + 1 := by
  unfold insK
  split <;> simp
theorem uniK_snoc (ks : List Key) (k : Key) : uniK (ks ++ [k]) = insK (uniK ks) k := by
  unfold uniK
  rw [List.foldl_append]
  rfl
theorem uniK_take_len (ks : List Key) : ∀ i, (uniK (ks.take i)).length ≤ i
  | 0 => by simp [uniK]
  | i + 1 => by
    cases h : ks[i]? with
    | none =>
      rw [List.take_add_one, h]
      have := uniK_take_len ks i
      simp
      omega
    | some k =>
      rw [List.take_add_one, h]
      show (uniK (ks.take i ++ [k])).length ≤ _
      rw [uniK_snoc]
      have h1 := insK_len (uniK (ks.take i)) k
      have h2 := uniK_take_len ks i
      omega
theorem kset_fresh {h : Heap} (ho : h.get? a = some { cls := .type "set", dict := none, data := .set #[] 0 (.fresh 0 0 (!w.params.followText "set-order")) }) : KSet w h a [] :=
  ⟨_, #[], 0, _, ho, ⟨rfl, rfl, rfl⟩, rfl, (fun e he => by simp at he), by simp, List.nodup_nil, (by decide), (by rfl), List.Pairwise.nil, by
    show _ ∨ (!w.params.followText "set-order") = true
    cases w.params.followText "set-order"
    · exact .inr rfl
    · exact .inl rfl⟩
theorem set_update_keys {I : Addr} {fp wr : List Addr} {G : Array GenState → Array GenState → Prop} {n : Nat} {Pv : Nat → Value → Prop} {St : Nat → Shared → Prop} {R : Result → Shared → Prop}
    (W : WalksS P w A.in1 I fp wr G n Pv St) (S : Addr) (hSf : S ∉ fp) (ks : List Key) (hn : n = ks.length) (hb : ks.length + 1 < scanBound) (hval : ∀ i v, Pv i v → ∃ k, ks[i]? = some k ∧ keyIs k v = true) :
    ∀ (k i : Nat) (s : Shared), n - i = k → i ≤ n → St i s → KSet w s.heap S (uniK (ks.take i)) →
      (∀ s', Moved (S :: wr) G s s' → KSet w s'.heap S (uniK ks) → R (.ok (.ret .none)) s') →
      codeAny (model P w) A (.builtin "set.update.loop" ⟨[.ref S, .ref I], []⟩) R s := by
  have hSw : S ∉ wr := fun h => hSf (W.sub _ h)
  have hsub : ∀ b ∈ wr, b ∈ S :: wr := fun b hb => List.mem_cons_of_mem _ hb
  intro k
  induction k with
  | zero =>
    intro i s hk' hi hst hS hR
    have hin : i = n := by omega
    subst hin
    refine codeAny_builtin F.entry_set_update_loop ?_
    rw [Around.under_plainId F.plain_set_update_loop _]
    show wpAny _ A.in1 (pyNext (.ref I) >>= _) _ _ s
    refine wpAny_bind (W.done s _ _ hst fun s' hm => ?_)
    show wpAny _ A.in1 (ret Value.none) _ _ s'
    have e : ks.take i = ks := List.take_of_length_le (by omega)
    rw [e] at hS
    exact wpAny_pure (hR s' (hm.mono hsub) (hS.at fun o e => hm.heap S o hSw e))
  | succ k ih =>
    intro i s hk' hi hst hS hR
    have hlt : i < n := by omega
    refine codeAny_builtin F.entry_set_update_loop ?_
    rw [Around.under_plainId F.plain_set_update_loop _]
    show wpAny _ A.in1 (pyNext (.ref I) >>= _) _ _ s
    refine wpAny_bind (W.item i s _ _ hlt hst fun v s' hP hst' hm => ?_)
    obtain ⟨z, hz, hv⟩ := hval i v hP
    have hS' : KSet w s'.heap S (uniK (ks.take i)) := hS.at fun o e => hm.heap S o hSw e
    have ul := uniK_take_len ks i
    show wpAny _ A.in1 (holding [v] (setAdd S v) >>= _) _ _ s'
    refine wpAny_bind (wpAny_holding ?_)
    unfold setAdd
    refine wpAny_holding ?_
    refine wpAny_bind ((mixKind P w).pyHash (k := z) hv ?_)
    refine ks_add (s := { s' with toks := s'.toks + 1 }) hv hS' (by omega) fun h' b hsb hS2 => ?_
    have hS3 : KSet w h' S (uniK (ks.take (i + 1))) := by
      rw [List.take_add_one, hz]
      show KSet w h' S (uniK (ks.take i ++ [z]))
      rw [uniK_snoc]
      exact hS2
    refine wpAny_pure ⟨plainId_quiet F.plain_set_update_loop _, ih (i + 1) _ (by omega) hlt (W.frame _ s' _ _ hst' (Nat.le_succ _) fun b hb o e => ?_) hS3 fun s'' hm'' hS'' => ?_⟩
    · rw [hsb.2 b (fun h : b = S => hSf (by rw [← h]; exact hb))]; exact e
    · refine hR s'' (Moved.trans W.gtrans ((hm.mono hsub).then_heap (Nat.le_succ _) fun b o hb e => ?_) hm'') hS''
      rw [hsb.2 b (fun h : b = S => hb (by rw [h]; exact List.mem_cons_self))]; exact e
/-- set(xs) -/
theorem call_set_keys {l : Addr} {items : Array Value} (ks : List Key) {Q : Value → Shared → Prop} (hh : A.handled = none) (hl : s.heap.IsList l items) (hit : ∀ (i : Nat) (v : Value), items[i]? = some v → ∃ k, ks[i]? = some k ∧ keyIs k v = true) (hsz : items.size = ks.length)
    (hb : ks.length + 1 < scanBound)
    (h : ∀ (h' : Heap) (tk : Nat), KSet w h' s.heap.objs.size (uniK ks) → (∀ b o, s.heap.get? b = some o → h'.get? b = some o) → Q (.ref s.heap.objs.size) { s with heap := h', toks := tk }) :
    wpAny (model P w) A (call (.type "set") [.ref l]) Q E s := by
  obtain ⟨c, tl, hmro⟩ := F.called_set.mro
  have hmade := F.called_set.made
  have hsub := F.called_set.sub
  refine wpAny_call (codeAny_of_tree ?_)
  show wpAny _ _ (callAny (.type "set") _) _ _ _
  refine wpAny_pure ⟨Code.quiet_builtin _ (by decide +kernel), codeAny_builtin F.entry_type_call ?_⟩
  rw [Around.under_plain (weight_type_call_type "set" [.ref l] []) rfl]
  have h1 := F.called_set.notType
  have h2 := F.called_set.canCreate
  have hct := F.typeCall_set_1 (.ref l)
  repeat (any_goals (first | assumption | wp_step))

  refine codeAny_mono (code_set_led1 (.ref l) (E := E) (Q₁ := fun obj s₁ => obj = .ref s.heap.objs.size ∧ s₁ = { s with heap := s.heap.push { cls := .type "set", dict := none, data := .set #[] 0 (.fresh 0 0 (!w.params.followText "set-order")) } }) ⟨rfl, rfl⟩) fun r s₁ hr => ?_
  cases r with
  | error e => exact hr
  | ok fl =>
    cases fl with
    | ret obj =>
      obtain ⟨rfl, rfl⟩ := hr
      have hS : (s.heap.push { cls := .type "set", dict := none, data := .set #[] 0 (.fresh 0 0 (!w.params.followText "set-order")) }).get? s.heap.objs.size = some { cls := .type "set", dict := none, data := .set #[] 0 (.fresh 0 0 (!w.params.followText "set-order")) } := Heap.get?_push_size _ rfl
      have hT : Shared.TypeIs { s with heap := s.heap.push { cls := .type "set", dict := none, data := .set #[] 0 (.fresh 0 0 (!w.params.followText "set-order")) } } (.ref s.heap.objs.size) "set" := ⟨_, hS, rfl⟩
      have hli := F.called_set.init.lookup
      have hbi := F.called_set.init.bind (.ref s.heap.objs.size)
      repeat (any_goals (first | assumption | wp_step))

      refine codeAny_mono (codeAny_call_builtin (R := wants (fun r s₂ => r = .none ∧ ∃ h' tk, s₂ = { s with heap := h', toks := tk } ∧ KSet w h' s.heap.objs.size (uniK ks) ∧
          (∀ b o, s.heap.get? b = some o → h'.get? b = some o)) E) F.called_set.init.plain F.entry_set_init (check_set_init_1 hT ?_)) fun r₂ s₂ hr₂ => ?_
      · obtain ⟨ol, hol, hcl, nl, hdl⟩ := hl
        obtain ⟨ocls, odict, odata, oslots⟩ := ol
        simp only at hcl hdl
        subst hcl; subst hdl
        have hol' : (s.heap.push { cls := .type "set", dict := none, data := .set #[] 0 (.fresh 0 0 (!w.params.followText "set-order")) }).get? l = some { cls := .type "list", dict := odict, data := .seq items nl, slots := oslots } := Heap.get?_push_of_some _ hol
        have hsls := F.sub_list_set
        have hslf := F.sub_list_frozenset
        have hne : (Value.type "list" == Value.type "dict") = false := by decide
        have hl1 : (s.heap.push { cls := .type "set", dict := none, data := .set #[] 0 (.fresh 0 0 (!w.params.followText "set-order")) }).IsList l items := ⟨_, hol', rfl, nl, rfl⟩
        unfold Builtin.«set.__init__» noKeywords Builtin.Frozenset.updateFrom
        generalize hPI : pyIter = PI
        wp_walk
        subst hPI

        refine wpAny_pyIter_list hl1 ?_
        refine wpAny_bind (wpAny_runValue ?_)
        have hlS : l < s.heap.objs.size := Heap.lt_size hol
        have hh3 : A.in1.in1.in1.handled = none := by simp [hh]
        have hneI : l ≠ (s.heap.push { cls := .type "set", dict := none, data := .set #[] 0 (.fresh 0 0 (!w.params.followText "set-order")) }).objs.size := by
          rw [Heap.size_push]; exact Nat.ne_of_lt (Nat.lt_succ_of_lt hlS)
        have hSf : s.heap.objs.size ∉ [(s.heap.push { cls := .type "set", dict := none, data := .set #[] 0 (.fresh 0 0 (!w.params.followText "set-order")) }).objs.size, l] := by
          rw [Heap.size_push]; simp only [List.mem_cons, List.mem_singleton, List.not_mem_nil, or_false, not_or]
          exact ⟨Nat.ne_of_lt (Nat.lt_succ_self _), Nat.ne_of_gt hlS⟩
        refine set_update_keys ((Walks.list hh3 _ l hneI items).toS) s.heap.objs.size
          hSf ks hsz hb hit (items.size - 0) 0 _ (by omega) (Nat.zero_le _)
          ⟨⟨_, Heap.get?_push_size _ rfl, rfl, rfl⟩, (hl1.push _)⟩ ?hS0 ?hR
        case hS0 =>
          have hget : ((s.heap.push { cls := .type "set", dict := none, data := .set #[] 0 (.fresh 0 0 (!w.params.followText "set-order")) }).push { cls := .type "list_iterator", data := .fields #[.ref l, .int 0 0] }).get? s.heap.objs.size
              = some { cls := .type "set", dict := none, data := .set #[] 0 (.fresh 0 0 (!w.params.followText "set-order")) } := Heap.get?_push_of_some _ hS
          exact kset_fresh hget
        case hR =>
          intro s' hm hS'
          obtain ⟨h', g', d', tk', os'⟩ := s'
          have eg : g' = s.gens := hm.gens
          have ed : d' = s.drawn := hm.drawn
          have eo : os' = s.os := hm.os
          subst eg; subst ed; subst eo
          show wpAny _ _ _ _ _ _
          refine wpAny_pure ?_
          show wpAny _ _ (ret Value.none) _ _ _
          refine wpAny_pure ⟨rfl, h', tk', rfl, hS', fun b o e => ?_⟩
          have hb' : b < s.heap.objs.size := Heap.lt_size e
          have hb1 : b ≠ s.heap.objs.size := Nat.ne_of_lt hb'
          have hb2 : b ≠ (s.heap.push { cls := .type "set", dict := none, data := .set #[] 0 (.fresh 0 0 (!w.params.followText "set-order")) }).objs.size := by
            rw [Heap.size_push]; exact Nat.ne_of_lt (Nat.lt_succ_of_lt hb')
          exact hm.heap b o (by simp only [List.mem_cons, List.mem_singleton, List.not_mem_nil, or_false, not_or]; exact ⟨hb1, hb2⟩) (Heap.get?_push_of_some _ (Heap.get?_push_of_some _ e))

      · cases r₂ with
        | error e => exact hr₂
        | ok fl₂ =>
          cases fl₂ with
          | ret r =>
            obtain ⟨rfl, h', tk, rfl, hS', hk'⟩ := hr₂
            repeat (any_goals (first | assumption | wp_step))
            exact h _ _ hS' hk'
          | _ => exact hr₂.elim
    | _ => exact hr.elim
end
end MI
/-! # sorted(set(xs)), len(set(xs)) -/
namespace MI
open PySem PySem.Spec PyProof.Rows L2
def kStr : Key → Str
  | .inr x => x
  | .inl _ => Str.empty
def kInt : Key → Int
  | .inl i => i
  | .inr _ => 0
section
variable {P : Program} {w : World} {A : Around} {E : Value → Shared → Prop} {s : Shared} {a : Addr} {l : List Key}
theorem ints_all : ∀ (vs : List Value), (∀ v ∈ vs, ∃ k tk, v = Value.int k tk) → IntsAre vs (vs.map fun v => match v with | .int k _ => k | _ => 0)
  | [], _ => .nil
  | v :: vs, h => by
    obtain ⟨k, tk, rfl⟩ := h v List.mem_cons_self
    exact .cons k tk (ints_all vs fun u hu => h u (List.mem_cons_of_mem _ hu))
theorem sorted_ksetS {ss : List Str} {Q : Value → Shared → Prop} (R : KSet w s.heap a (ss.map Sum.inr)) (hh : A.handled = none)
    (hQ : ∀ s' p (out : Array Value) (c : Nat) (ys : List Str), (∀ b o, s.heap.get? b = some o → s'.heap.get? b = some o) → s'.gens = s.gens → s'.os = s.os → s.heap.objs.size ≤ p →
      s'.heap.get? p = some (seqObj "list" out c) → StrsAre out.toList ys → ys.Perm ss → sortedS ys = true → Q (.ref p) s') :
    wpAny (model P w) A (call (.builtin "sorted") [.ref a]) Q E s := by
  obtain ⟨o, es, ep, t, ho, hex, hd, g, pl, nl, hb, hf, hr, hl⟩ := R
  refine Calls.call_function_entry kind_sorted plain_sorted entry_sorted (args_sorted1 _) ?_
  unfold Builtin.«sorted»
  refine wpAny_bind (m := checkCount "sorted" 1 1 _) (wpAny_pure ?_)
  refine wpAny_bind (collect_set (A := A.in1) hh ⟨o, ho, hex.1, hd⟩ hf hb hr hl fun s1 vs k1 hz g1 o1 pm => ?_)
  have hvl : vs.length < scanBound := by rw [pm.length_eq, List.length_map, Array.length_toList]; exact hb
  have hvl2 : vs.length ≤ sizeLine := fits_of_scanBound hvl
  have ek : ∀ e ∈ es.toList, ∃ x tk, e.2 = Value.str x tk := fun e he => by
    obtain ⟨k, h1, h2⟩ := g e he
    have hm := pl.mem_iff.mp (List.mem_map.mpr ⟨e, he, (kyE_is (g e he) k).mp h1⟩)
    obtain ⟨x, _, rfl⟩ := List.mem_map.mp hm
    rcases keyIs_shape h1 with ⟨i, tk, q, hv⟩ | ⟨y, tk, q, hv⟩
    · exact nomatch q
    · exact ⟨y, tk, hv⟩
  have hS : StrsAre vs (vs.map strOf) := strsAre_map vs fun v hv => by
    obtain ⟨e, he, q⟩ := List.mem_map.mp (pm.mem_iff.mp hv)
    obtain ⟨x, tk, h⟩ := ek e he
    exact ⟨x, tk, by rw [← q, h]⟩
  have pk : (vs.map strOf).Perm ss := by
    have q1 := pm.map strOf
    have q2 := pl.map kStr
    rw [List.map_map] at q1 q2
    rw [List.map_map] at q2
    have e1 : es.toList.map (strOf ∘ fun e => e.2) = es.toList.map (kStr ∘ kyE) := List.map_congr_left fun e he => by
      obtain ⟨x, tk, h⟩ := ek e he
      show strOf e.2 = kStr (kyE e)
      unfold kyE
      rw [h]
      rfl
    have e2 : ss.map (kStr ∘ Sum.inr) = ss := by
      have : (kStr ∘ Sum.inr : Str → Str) = id := rfl
      rw [this, List.map_id]
    rw [e2] at q2
    exact (q1.trans (by rw [← e1] at q2; exact q2))
  refine wpAny_bind (wpAny_newList ?_ (by simpa using hvl2))
  have hoL : (s1.heap.push (seqObj "list" vs.toArray 0)).get? s1.heap.objs.size = some (seqObj "list" vs.toArray 0) := Heap.get?_push_size _ rfl
  refine wpAny_bind (wpAny_holding (wpAny_call_entry slot_list_sort ⟨_, hoL, rfl⟩ entry_list_sort (list_sort_treeKAny strKind_oneLt hoL hS.keysOf (fun v₁ v₂ rest e => keyKind_strs (by rw [← e]; exact hS)) hvl2 fun st' hp hs => ⟨_, rfl, ?_⟩) (args_list_sort _)))
  obtain ⟨ys, a1, a2, a3⟩ := sorted_out_str hS hp hs
  obtain ⟨c, hc⟩ := sortedHeap_at (vs := vs) (out := (arrOf st').map (·.2)) hoL
  refine wpAny_pure ⟨_, rfl, hQ _ s1.heap.objs.size _ c ys (fun b u e => ?_) g1 o1 hz hc a1 (a2.trans pk) a3⟩
  have q := k1 b u e
  have hlt := Heap.lt_size q
  show (sortedHeap (s1.heap.push (seqObj "list" vs.toArray 0)) s1.heap.objs.size vs _).get? b = some u
  rw [sortedHeap_old (Nat.ne_of_lt hlt) (by rw [size_push']; exact Nat.lt_succ_of_lt hlt)]
  exact Heap.get?_push_of_some _ q
theorem sorted_ksetI {ss : List Int} {Q : Value → Shared → Prop} (R : KSet w s.heap a (ss.map Sum.inl)) (hh : A.handled = none)
    (hQ : ∀ s' p (out : Array Value) (c : Nat) (ys : List Int), (∀ b o, s.heap.get? b = some o → s'.heap.get? b = some o) → s'.gens = s.gens → s'.os = s.os → s.heap.objs.size ≤ p →
      s'.heap.get? p = some (seqObj "list" out c) → IntsAre out.toList ys → ys.Perm ss → ys.Pairwise (· ≤ ·) → Q (.ref p) s') :
    wpAny (model P w) A (call (.builtin "sorted") [.ref a]) Q E s := by
  obtain ⟨o, es, ep, t, ho, hex, hd, g, pl, nl, hb, hf, hr, hl⟩ := R
  refine Calls.call_function_entry kind_sorted plain_sorted entry_sorted (args_sorted1 _) ?_
  unfold Builtin.«sorted»
  refine wpAny_bind (m := checkCount "sorted" 1 1 _) (wpAny_pure ?_)
  refine wpAny_bind (collect_set (A := A.in1) hh ⟨o, ho, hex.1, hd⟩ hf hb hr hl fun s1 vs k1 hz g1 o1 pm => ?_)
  have hvl : vs.length < scanBound := by rw [pm.length_eq, List.length_map, Array.length_toList]; exact hb
  have hvl2 : vs.length ≤ sizeLine := fits_of_scanBound hvl
  have ek : ∀ e ∈ es.toList, ∃ x tk, e.2 = Value.int x tk := fun e he => by
    obtain ⟨k, h1, h2⟩ := g e he
    have hm := pl.mem_iff.mp (List.mem_map.mpr ⟨e, he, (kyE_is (g e he) k).mp h1⟩)
    obtain ⟨x, _, rfl⟩ := List.mem_map.mp hm
    rcases keyIs_shape h1 with ⟨i, tk, q, hv⟩ | ⟨y, tk, q, hv⟩
    · exact ⟨i, tk, hv⟩
    · exact nomatch q
  have hS := ints_all vs fun v hv => by
    obtain ⟨e, he, q⟩ := List.mem_map.mp (pm.mem_iff.mp hv)
    obtain ⟨x, tk, h⟩ := ek e he
    exact ⟨x, tk, by rw [← q, h]⟩
  have pk : (vs.map fun v => match v with | .int k _ => k | _ => 0).Perm ss := by
    have q1 := pm.map fun v => match v with | .int k _ => k | _ => (0 : Int)
    have q2 := pl.map kInt
    rw [List.map_map] at q1 q2
    rw [List.map_map] at q2
    have e1 : es.toList.map ((fun v => match v with | .int k _ => k | _ => (0 : Int)) ∘ fun e => e.2) = es.toList.map (kInt ∘ kyE) := List.map_congr_left fun e he => by
      obtain ⟨x, tk, h⟩ := ek e he
      show (match e.2 with | .int k _ => k | _ => (0 : Int)) = kInt (kyE e)
      unfold kyE
      rw [h]
      rfl
    have e2 : ss.map (kInt ∘ Sum.inl) = ss := by
      have : (kInt ∘ Sum.inl : Int → Int) = id := rfl
      rw [this, List.map_id]
    rw [e2] at q2
    exact (q1.trans (by rw [← e1] at q2; exact q2))
  refine wpAny_bind (wpAny_newList ?_ (by simpa using hvl2))
  have hoL : (s1.heap.push (seqObj "list" vs.toArray 0)).get? s1.heap.objs.size = some (seqObj "list" vs.toArray 0) := Heap.get?_push_size _ rfl
  refine wpAny_bind (wpAny_holding (wpAny_call_entry slot_list_sort ⟨_, hoL, rfl⟩ entry_list_sort (list_sort_treeAny hoL hS hvl2 fun out ys a1 a2 a3 => ⟨_, rfl, ?_⟩) (args_list_sort _)))
  obtain ⟨c, hc⟩ := sortedHeap_at (vs := vs) (out := out) hoL
  refine wpAny_pure ⟨_, rfl, hQ _ s1.heap.objs.size _ c ys (fun b u e => ?_) g1 o1 hz hc a1 (a2.trans pk) a3⟩
  have q := k1 b u e
  have hlt := Heap.lt_size q
  show (sortedHeap (s1.heap.push (seqObj "list" vs.toArray 0)) s1.heap.objs.size vs _).get? b = some u
  rw [sortedHeap_old (Nat.ne_of_lt hlt) (by rw [size_push']; exact Nat.lt_succ_of_lt hlt)]
  exact Heap.get?_push_of_some _ q
end
/-- the set of keys, held -/
def SetJ (w : World) (a : Addr) (l : List Key) : HO := .ext fun h => KSet w h a l
theorem setJ_new {w : World} {P : Program} {H : Hp} {h : Heap} {a : Addr} {l : List Key} (R : KSet w h a l) : ObjOk P w H h a (SetJ w a l) := by
  have ⟨o, _, _, _, ho, _⟩ := R
  exact ⟨R, ⟨o, ho⟩, fun h1 h2 p k => KSet.at p k⟩
section
variable {X : Cx}
theorem keys_vals (P : Program) (w : World) : ∀ {ks : List Key} {us : List Value}, Vals (ks.map kV) us → ∀ (i : Nat) (v : Value), us[i]? = some v → ∃ k, ks[i]? = some k ∧ keyIs k v = true
  | [], _, .nil, i, v, h => by simp at h
  | k :: ks, _, .cons r t, 0, v, h => by
    simp at h
    subst h
    exact ⟨k, rfl, kV_is (P := P) (w := w) r⟩
  | k :: ks, _, .cons r t, i + 1, v, h => by
    obtain ⟨k', h1, h2⟩ := keys_vals P w t i v (by simpa using h)
    exact ⟨k', by simpa using h1, h2⟩
def rSetJ (K : PySem.W.Frag) (w : World) : List V → Hp → VK → Prop := fun xs H Q => ∃ (l : Addr) (ks : List Key), xs = [V.ref l] ∧ SqL K H l (ks.map kV) ∧ ks.length ≤ 1000 ∧ ∀ a, H a = none → Q (.ref a) (upd H a (SetJ w a (uniK ks)))
theorem cr_setJ (hc : X.calm = true) : CallR X (.type "set") (rSetJ X.K X.w) := by
  intro pins s σ H xs us Q I r h
  obtain ⟨l, ks, rfl, hl, hf, q⟩ := h
  rw [Vals.ref1 r]
  obtain ⟨its, rv, pl, hz⟩ := I.list hl
  have hn : H s.heap.objs.size = none := I.hok.fresh (Nat.le_refl _)
  have hlen := rv.length
  rw [List.length_map] at hlen
  refine call_set_keys (P := X.prog) (w := X.w) ks (I.ok.hd hc) pl.isList (fun i v h => keys_vals X.prog X.w rv i v (by simpa using h)) (by simp [hlen]) (by unfold scanBound; omega) fun h' tk R k => ?_
  exact ⟨.ref s.heap.objs.size, upd H s.heap.objs.size (SetJ X.w s.heap.objs.size (uniK ks)), I.laid (t' := tk) k (Nat.le_refl _) (setJ_new R), rfl, q _ hn⟩
def rSortJ (w : World) : List V → Hp → VK → Prop := fun xs H Q => (∃ (a : Addr) (ss : List Str), xs = [V.ref a] ∧ H a = some (SetJ w a (ss.map Sum.inr)) ∧ ss.length ≤ 1000 ∧
    ∀ (ys : List Str) (p : Addr), ys.Perm ss → sortedS ys = true → H p = none → Q (.ref p) (upd H p (.lst (ys.map V.str)))) ∨
  (∃ (a : Addr) (ss : List Int), xs = [V.ref a] ∧ H a = some (SetJ w a (ss.map Sum.inl)) ∧ ss.length ≤ 1000 ∧
    ∀ (ys : List Int) (p : Addr), ys.Perm ss → ys.Pairwise (· ≤ ·) → H p = none → Q (.ref p) (upd H p (.lst (ys.map V.int))))
theorem cr_sortJ (hc : X.calm = true) : CallR X (.builtin "sorted") (rSortJ X.w) := by
  intro pins s σ H vs us Q I r h
  rcases h with ⟨a, ss, rfl, ha, hlen, q⟩ | ⟨a, ss, rfl, ha, hlen, q⟩
  · have R : KSet X.w s.heap a (ss.map Sum.inr) := (I.hok a _ ha).1
    rw [Vals.ref1 r]
    refine sorted_ksetS R (I.ok.hd hc) fun s' p out c ys k g o hp hg hi pm hs => ?_
    have hl : (ys.map V.str).length ≤ sizeLine := by rw [List.length_map, pm.length_eq, sizeLine_eq]; omega
    have hn : H p = none := I.hok.fresh hp
    have J : Inv X pins σ (upd H p (.lst (ys.map V.str))) { s with heap := s'.heap, gens := s'.gens, drawn := s'.drawn, toks := s'.toks } :=
      I.call (ch := []) (Un.laid k hp hn) (I.hok.laid k hp ⟨hl, out.toList, c, vals_of_strs hi, hg⟩) (by rw [g]; exact I.bare) (fun _ z => nomatch z)
    have e : s' = { s with heap := s'.heap, gens := s'.gens, drawn := s'.drawn, toks := s'.toks } := by
      cases s'
      cases s
      cases o
      rfl
    rw [e]
    exact ⟨.ref p, _, J, rfl, q ys p pm hs hn⟩
  · have R : KSet X.w s.heap a (ss.map Sum.inl) := (I.hok a _ ha).1
    rw [Vals.ref1 r]
    refine sorted_ksetI R (I.ok.hd hc) fun s' p out c ys k g o hp hg hi pm hs => ?_
    have hl : (ys.map V.int).length ≤ sizeLine := by rw [List.length_map, pm.length_eq, sizeLine_eq]; omega
    have hn : H p = none := I.hok.fresh hp
    have J : Inv X pins σ (upd H p (.lst (ys.map V.int))) { s with heap := s'.heap, gens := s'.gens, drawn := s'.drawn, toks := s'.toks } :=
      I.call (ch := []) (Un.laid k hp hn) (I.hok.laid k hp ⟨hl, out.toList, c, vals_of_ints hi, hg⟩) (by rw [g]; exact I.bare) (fun _ z => nomatch z)
    have e : s' = { s with heap := s'.heap, gens := s'.gens, drawn := s'.drawn, toks := s'.toks } := by
      cases s'
      cases s
      cases o
      rfl
    rw [e]
    exact ⟨.ref p, _, J, rfl, q ys p pm hs hn⟩
end
end MI
/-! # Mirrors: sorted(set(xs)), len(set(xs)), max, min and sum of a list, zip -/
namespace MI
open PySem PySem.Spec PyProof.Rows L2
/-- the members, each once, the last one first -/
def uni {α : Type} [DecidableEq α] (l : List α) : List α := l.foldl (fun a k => if (a.any fun j => decide (j = k)) = true then a else k :: a) []
theorem uniK_mapAux {α : Type} [DecidableEq α] (f : α → Key) (hf : ∀ a b, f a = f b → a = b) : ∀ (l acc : List α), (l.map f).foldl insK (acc.map f) = (l.foldl (fun a k => if (a.any fun j => decide (j = k)) = true then a else k :: a) acc).map f
  | [], acc => rfl
  | k :: l, acc => by
    rw [List.map_cons, List.foldl_cons, List.foldl_cons, ← uniK_mapAux f hf l]
    congr 1
    unfold insK
    have e : ((acc.map f).any fun j => decide (j = f k)) = acc.any fun j => decide (j = k) := by
      rw [List.any_map]
      congr 1
      funext j
      show decide (f j = f k) = decide (j = k)
      by_cases h : j = k
      · subst h; simp
      · have h2 : ¬ f j = f k := fun z => h (hf _ _ z)
        rw [decide_eq_false h, decide_eq_false h2]
    rw [e]
    split <;> simp
theorem uniK_str (l : List Str) : uniK (l.map Sum.inr) = (uni l).map Sum.inr := uniK_mapAux (fun x : Str => (Sum.inr x : Key)) (fun a b h => Sum.inr.inj h) l []
theorem uniK_int (l : List Int) : uniK (l.map Sum.inl) = (uni l).map Sum.inl := uniK_mapAux (fun x : Int => (Sum.inl x : Key)) (fun a b h => Sum.inl.inj h) l []
theorem uni_lenAux {α : Type} [DecidableEq α] : ∀ (l acc : List α), (l.foldl (fun a k => if (a.any fun j => decide (j = k)) = true then a else k :: a) acc).length ≤ acc.length + l.length
  | [], acc => by simp
  | k :: l, acc => by
    rw [List.foldl_cons]
    refine Nat.le_trans (uni_lenAux l _) ?_
    split <;> simp <;> omega
theorem uni_len {α : Type} [DecidableEq α] (l : List α) : (uni l).length ≤ l.length := by
  have := uni_lenAux l []
  rw [List.length_nil, Nat.zero_add] at this
  exact this
theorem uni_aux {α : Type} [DecidableEq α] : ∀ (l acc : List α), acc.Nodup → (l.foldl (fun a k => if (a.any fun j => decide (j = k)) = true then a else k :: a) acc).Nodup ∧
    ∀ x, x ∈ (l.foldl (fun a k => if (a.any fun j => decide (j = k)) = true then a else k :: a) acc) ↔ x ∈ acc ∨ x ∈ l
  | [], acc, h => ⟨h, fun x => by simp⟩
  | k :: l, acc, h => by
    rw [List.foldl_cons]
    by_cases hk : k ∈ acc
    · have e : (acc.any fun j => decide (j = k)) = true := List.any_eq_true.mpr ⟨k, hk, decide_eq_true rfl⟩
      rw [if_pos e]
      obtain ⟨h1, h2⟩ := uni_aux l acc h
      refine ⟨h1, fun x => (h2 x).trans ⟨fun z => z.imp id (List.mem_cons_of_mem _), fun z => z.elim .inl fun z => ?_⟩⟩
      rcases List.mem_cons.mp z with rfl | z
      · exact .inl hk
      · exact .inr z
    · have e : ¬ (acc.any fun j => decide (j = k)) = true := fun z => by
        obtain ⟨j, hj, q⟩ := List.any_eq_true.mp z
        rw [of_decide_eq_true q] at hj
        exact hk hj
      rw [if_neg e]
      obtain ⟨h1, h2⟩ := uni_aux l (k :: acc) (List.nodup_cons.mpr ⟨hk, h⟩)
      refine ⟨h1, fun x => (h2 x).trans ?_⟩
      rw [List.mem_cons, List.mem_cons]
      constructor
      · rintro ((z | z) | z)
        · exact .inr (.inl z)
        · exact .inl z
        · exact .inr (.inr z)
      · rintro (z | z | z)
        · exact .inl (.inr z)
        · exact .inl (.inl z)
        · exact .inr z
theorem uni_nodup {α : Type} [DecidableEq α] (l : List α) : (uni l).Nodup := (uni_aux l [] List.nodup_nil).1
theorem uni_mem {α : Type} [DecidableEq α] {l : List α} {x : α} : x ∈ uni l ↔ x ∈ l := ((uni_aux l [] List.nodup_nil).2 x).trans (by simp)
theorem uni_perm {α : Type} [DecidableEq α] {l : List α} (h : l.Nodup) : l.Perm (uni l) := (List.perm_ext_iff_of_nodup h (uni_nodup l)).mpr fun x => uni_mem.symm
def fSortedSet : S → RV → Res RV := fun s r => match asD s r with
  | some (.lst xs) => (match strsOf xs with
    | some ks => if ks.length ≤ 1000 then .ok (.new (.lst ((sortS (uni ks)).map .str))) s else .stuck
    | none => (match intsOf xs with
      | some is => if is.length ≤ 1000 then .ok (.new (.lst ((sortI (uni is)).map .int))) s else .stuck
      | none => .stuck))
  | _ => .stuck
def fLenSet : S → RV → Res RV := fun s r => match asD s r with
  | some (.lst xs) => (match strsOf xs with
    | some ks => if ks.length ≤ 1000 then .ok (.d (.int (uni ks).length)) s else .stuck
    | none => (match intsOf xs with
      | some is => if is.length ≤ 1000 then .ok (.d (.int (uni is).length)) s else .stuck
      | none => .stuck))
  | _ => .stuck
def maxL : List Int → Int
  | [] => 0
  | i :: is => is.foldl (fun a b => if a < b then b else a) i
def minL : List Int → Int
  | [] => 0
  | i :: is => is.foldl (fun a b => if b < a then b else a) i
theorem maxL_aux : ∀ (is : List Int) (i : Int), (is.foldl (fun a b => if a < b then b else a) i) ∈ i :: is ∧ ∀ j ∈ i :: is, j ≤ is.foldl (fun a b => if a < b then b else a) i
  | [], i => ⟨List.mem_cons_self, fun j m => by simp at m; simp [m]⟩
  | k :: is, i => by
    rw [List.foldl_cons]
    obtain ⟨h1, h2⟩ := maxL_aux is (if i < k then k else i)
    refine ⟨?_, fun j m => ?_⟩
    · rcases List.mem_cons.mp h1 with z | z
      · rw [z]
        split
        · exact List.mem_cons_of_mem _ List.mem_cons_self
        · exact List.mem_cons_self
      · exact List.mem_cons_of_mem _ (List.mem_cons_of_mem _ z)
    · have h3 := h2 _ List.mem_cons_self
      rcases List.mem_cons.mp m with rfl | m
      · refine Int.le_trans ?_ h3
        split <;> omega
      · rcases List.mem_cons.mp m with rfl | m
        · refine Int.le_trans ?_ h3
          split <;> omega
        · exact h2 j (List.mem_cons_of_mem _ m)
theorem minL_aux : ∀ (is : List Int) (i : Int), (is.foldl (fun a b => if b < a then b else a) i) ∈ i :: is ∧ ∀ j ∈ i :: is, is.foldl (fun a b => if b < a then b else a) i ≤ j
  | [], i => ⟨List.mem_cons_self, fun j m => by simp at m; simp [m]⟩
  | k :: is, i => by
    rw [List.foldl_cons]
    obtain ⟨h1, h2⟩ := minL_aux is (if k < i then k else i)
    refine ⟨?_, fun j m => ?_⟩
    · rcases List.mem_cons.mp h1 with z | z
      · rw [z]
        split
        · exact List.mem_cons_of_mem _ List.mem_cons_self
        · exact List.mem_cons_self
      · exact List.mem_cons_of_mem _ (List.mem_cons_of_mem _ z)
    · have h3 := h2 _ List.mem_cons_self
      rcases List.mem_cons.mp m with rfl | m
      · refine Int.le_trans h3 ?_
        split <;> omega
      · rcases List.mem_cons.mp m with rfl | m
        · refine Int.le_trans h3 ?_
          split <;> omega
        · exact h2 j (List.mem_cons_of_mem _ m)
theorem maxL_mem {l : List Int} (h : l ≠ []) : maxL l ∈ l := by
  cases l with
  | nil => exact absurd rfl h
  | cons i is => exact (maxL_aux is i).1
theorem maxL_le {l : List Int} : ∀ j ∈ l, j ≤ maxL l := by
  cases l with
  | nil => exact fun j m => (nomatch m)
  | cons i is => exact (maxL_aux is i).2
theorem minL_mem {l : List Int} (h : l ≠ []) : minL l ∈ l := by
  cases l with
  | nil => exact absurd rfl h
  | cons i is => exact (minL_aux is i).1
theorem minL_le {l : List Int} : ∀ j ∈ l, minL l ≤ j := by
  cases l with
  | nil => exact fun j m => (nomatch m)
  | cons i is => exact (minL_aux is i).2
theorem maxL_eq {l : List Int} {m : Int} (h : m ∈ l) (h2 : ∀ j ∈ l, j ≤ m) : maxL l = m := by
  have a := maxL_le m h
  have b := h2 _ (maxL_mem (l := l) (fun z => by rw [z] at h; cases h))
  omega
theorem minL_eq {l : List Int} {m : Int} (h : m ∈ l) (h2 : ∀ j ∈ l, m ≤ j) : minL l = m := by
  have a := minL_le m h
  have b := h2 _ (minL_mem (l := l) (fun z => by rw [z] at h; cases h))
  omega
def fFold (f : List Int → Int) (ne : Bool) : S → RV → Res RV := fun s r => match asD s r with
  | some (.lst xs) => (match intsOf xs with
    | some is => if ne && is.isEmpty then .stuck else .ok (.d (.int (f is))) s
    | none => .stuck)
  | _ => .stuck
section
variable {X : Cx} {W : WX} {a : Expr} {ma : M} {pos p p2 q : Pos}
theorem list_of {g : G} {s : S} {σ : L2.St} {H : Hp} {v : V} {rv : RV} {xs : List D} (ok : Ok X.K g s σ H) (rr : RepRV X.K g s H v rv) (e : asD s rv = some (.lst xs)) : ∃ b vs, v = .ref b ∧ SqL X.K H b vs ∧ ∃ g1 : G, RepL X.K g1 vs xs := by
  obtain ⟨g1, l, sb, rp⟩ := asD_ok ok (GLe.refl g) ok.sub rr e
  cases rp with
  | @lst b vs _ h1 r1 => exact ⟨b, vs, rfl, .of (sb _ _ h1), g1, r1⟩
theorem cr_lenJ : CallR X (.builtin "len") (fun xs H Q => ∃ (a : Addr) (l : List Key), xs = [V.ref a] ∧ H a = some (SetJ X.w a l) ∧ l.length ≤ 1000 ∧ Q (.int l.length) H) := by
  intro pins s σ H vs us Q I r h
  obtain ⟨a, l, rfl, ha, hl, q⟩ := h
  have R : KSet X.w s.heap a l := (I.hok a _ ha).1
  rw [Vals.ref1 r]
  obtain ⟨o, es, ep, t, ho, hex, hd, g, pl, nl, hb, hf, hr, hl⟩ := R
  have hz : es.size = l.length := by rw [← Array.length_toList, ← pl.length_eq, List.length_map]
  exact call_len_set ho hex hd hf (by omega) ⟨.int l.length, H, I.tok _, ⟨_, by rw [hz]⟩, q⟩
theorem me_sortedSet (hc : X.calm = true) (ha : ME X W a ma) (hg : Gl X "sorted") (hm : X.mg "sorted" = none) (hg2 : Gl X "set") (hm2 : X.mg "set" = none)
    (hs : starEach [a] X.env = (false, eval a X.env) :: starEach [] X.env := by rfl)
    (hs2 : starEach [.Call (.Name "set" p2) [a] [] q] X.env = (false, eval (.Call (.Name "set" p2) [a] [] q) X.env) :: starEach [] X.env := by rfl) :
    ME X W (.Call (.Name "sorted" p) [.Call (.Name "set" p2) [a] [] q] [] pos) (mFn1 fSortedSet ma) := by
  refine pe_imp (pe_callB (cr_sortJ hc) hg hm (by decide +kernel) (pa_cons (pe_callTy (cr_setJ hc) hg2 hm2 boot_set (pa_cons ha pa_nil hs) (he := hs)) pa_nil hs2) (he := hs2)) fun σ H Q ⟨g, s, ok, h⟩ => ?_
  refine ma_one (r := fun vs H Q => rSetJ X.K X.w vs H fun x H1 => rSortJ X.w [x] H1 Q) (fun σ g s H Q v rv ok rr h => ?_) ok h
  unfold fSortedSet at h
  split at h
  · rename_i xs e
    obtain ⟨b, vs, rfl, hq, g1, r1⟩ := list_of ok rr e
    split at h
    · rename_i ks e2
      have ev := strsOf_ok r1 e2
      subst ev
      split at h
      · rename_i hl
        refine ⟨b, ks.map Sum.inr, rfl, ?_, by rw [List.length_map]; exact hl, fun a hn => ?_⟩
        · rw [List.map_map]; exact hq
        · rw [uniK_str]
          refine .inl ⟨a, uni ks, rfl, upd_same, Nat.le_trans (uni_len ks) hl, fun ys p hp hy hn2 => ?_⟩
          have := sortS_uniq hp hy
          subst this
          have ok1 := ok.grow (o := SetJ X.w a ((uni ks).map Sum.inr)) hn
          exact h g _ ((Step.grow ok hn).trans (Step.grow ok1 hn2)) (SlKeep.refl _) (ok1.grow hn2) _ ⟨p, rfl, ok1.fnone hn2, ok1.pnone hn2, ok1.lnone hn2, ⟨_, upd_same, repL_strs _⟩⟩
      · exact h.elim
    · split at h
      · rename_i is e2
        have ev := intsOf_ok r1 e2
        subst ev
        split at h
        · rename_i hl
          refine ⟨b, is.map Sum.inl, rfl, ?_, by rw [List.length_map]; exact hl, fun a hn => ?_⟩
          · rw [List.map_map]; exact hq
          · rw [uniK_int]
            refine .inr ⟨a, uni is, rfl, upd_same, Nat.le_trans (uni_len is) hl, fun ys p hp hy hn2 => ?_⟩
            have := sortI_uniq hp hy
            subst this
            have ok1 := ok.grow (o := SetJ X.w a ((uni is).map Sum.inl)) hn
            exact h g _ ((Step.grow ok hn).trans (Step.grow ok1 hn2)) (SlKeep.refl _) (ok1.grow hn2) _ ⟨p, rfl, ok1.fnone hn2, ok1.pnone hn2, ok1.lnone hn2, ⟨_, upd_same, repL_ints _⟩⟩
        · exact h.elim
      · exact h.elim
  · exact h.elim
theorem me_lenSet (hc : X.calm = true) (ha : ME X W a ma) (hg : Gl X "len") (hm : X.mg "len" = none) (hg2 : Gl X "set") (hm2 : X.mg "set" = none)
    (hs : starEach [a] X.env = (false, eval a X.env) :: starEach [] X.env := by rfl)
    (hs2 : starEach [.Call (.Name "set" p2) [a] [] q] X.env = (false, eval (.Call (.Name "set" p2) [a] [] q) X.env) :: starEach [] X.env := by rfl) :
    ME X W (.Call (.Name "len" p) [.Call (.Name "set" p2) [a] [] q] [] pos) (mFn1 fLenSet ma) := by
  refine pe_imp (pe_callB cr_lenJ hg hm PySem.boot_len (pa_cons (pe_callTy (cr_setJ hc) hg2 hm2 boot_set (pa_cons ha pa_nil hs) (he := hs)) pa_nil hs2) (he := hs2)) fun σ H Q ⟨g, s, ok, h⟩ => ?_
  refine ma_one (r := fun vs H Q => rSetJ X.K X.w vs H fun x H1 => ∃ (a : Addr) (l : List Key), [x] = [V.ref a] ∧ H1 a = some (SetJ X.w a l) ∧ l.length ≤ 1000 ∧ Q (.int l.length) H1) (fun σ g s H Q v rv ok rr h => ?_) ok h
  unfold fLenSet at h
  split at h
  · rename_i xs e
    obtain ⟨b, vs, rfl, hq, g1, r1⟩ := list_of ok rr e
    split at h
    · rename_i ks e2
      have ev := strsOf_ok r1 e2
      subst ev
      split at h
      · rename_i hl
        refine ⟨b, ks.map Sum.inr, rfl, ?_, by rw [List.length_map]; exact hl, fun a hn => ?_⟩
        · rw [List.map_map]; exact hq
        · rw [uniK_str]
          have ok1 := ok.grow (o := SetJ X.w a ((uni ks).map Sum.inr)) hn
          refine ⟨a, (uni ks).map Sum.inr, rfl, upd_same, by rw [List.length_map]; exact Nat.le_trans (uni_len ks) hl, ?_⟩
          rw [List.length_map]
          exact h g _ (Step.grow ok hn) (SlKeep.refl _) ok1 _ (.int _)
      · exact h.elim
    · split at h
      · rename_i is e2
        have ev := intsOf_ok r1 e2
        subst ev
        split at h
        · rename_i hl
          refine ⟨b, is.map Sum.inl, rfl, ?_, by rw [List.length_map]; exact hl, fun a hn => ?_⟩
          · rw [List.map_map]; exact hq
          · rw [uniK_int]
            have ok1 := ok.grow (o := SetJ X.w a ((uni is).map Sum.inl)) hn
            refine ⟨a, (uni is).map Sum.inl, rfl, upd_same, by rw [List.length_map]; exact Nat.le_trans (uni_len is) hl, ?_⟩
            rw [List.length_map]
            exact h g _ (Step.grow ok hn) (SlKeep.refl _) ok1 _ (.int _)
        · exact h.elim
      · exact h.elim
  · exact h.elim
theorem me_maxL (hc : X.calm = true) (ha : ME X W a ma) (hg : Gl X "max") (hm : X.mg "max" = none) (hs : starEach [a] X.env = (false, eval a X.env) :: starEach [] X.env := by rfl) : ME X W (.Call (.Name "max" p) [a] [] pos) (mFn1 (fFold maxL true) ma) := by
  refine pe_imp (pe_callB (cr_max hc) hg hm boot_max (pa_cons ha pa_nil hs) (he := hs)) fun σ H Q ⟨g, s, ok, h⟩ => ma_one (fun σ g s H Q v rv ok rr h => ?_) ok h
  unfold fFold at h
  split at h
  · rename_i xs e
    obtain ⟨b, vs, rfl, hq, g1, r1⟩ := list_of ok rr e
    split at h
    · rename_i is e2
      have ev := intsOf_ok r1 e2
      subst ev
      split at h
      · exact h.elim
      · rename_i hne
        refine ⟨b, is, rfl, hq, ?_, fun m h1 h2 => ?_⟩
        · cases is with
          | nil => exact absurd rfl hne
          | cons => exact Nat.succ_pos _
        · have := maxL_eq h1 h2
          subst this
          exact kE_d h ok (.int _)
    · exact h.elim
  · exact h.elim
theorem me_minL (hc : X.calm = true) (ha : ME X W a ma) (hg : Gl X "min") (hm : X.mg "min" = none) (hs : starEach [a] X.env = (false, eval a X.env) :: starEach [] X.env := by rfl) : ME X W (.Call (.Name "min" p) [a] [] pos) (mFn1 (fFold minL true) ma) := by
  refine pe_imp (pe_callB (cr_min hc) hg hm boot_min (pa_cons ha pa_nil hs) (he := hs)) fun σ H Q ⟨g, s, ok, h⟩ => ma_one (fun σ g s H Q v rv ok rr h => ?_) ok h
  unfold fFold at h
  split at h
  · rename_i xs e
    obtain ⟨b, vs, rfl, hq, g1, r1⟩ := list_of ok rr e
    split at h
    · rename_i is e2
      have ev := intsOf_ok r1 e2
      subst ev
      split at h
      · exact h.elim
      · rename_i hne
        refine ⟨b, is, rfl, hq, ?_, fun m h1 h2 => ?_⟩
        · cases is with
          | nil => exact absurd rfl hne
          | cons => exact Nat.succ_pos _
        · have := minL_eq h1 h2
          subst this
          exact kE_d h ok (.int _)
    · exact h.elim
  · exact h.elim
theorem me_sumL (hc : X.calm = true) (ha : ME X W a ma) (hg : Gl X "sum") (hm : X.mg "sum" = none) (hs : starEach [a] X.env = (false, eval a X.env) :: starEach [] X.env := by rfl) : ME X W (.Call (.Name "sum" p) [a] [] pos) (mFn1 (fFold List.sum false) ma) := by
  refine pe_imp (pe_callB (cr_sum hc) hg hm boot_sum (pa_cons ha pa_nil hs) (he := hs)) fun σ H Q ⟨g, s, ok, h⟩ => ma_one (fun σ g s H Q v rv ok rr h => ?_) ok h
  unfold fFold at h
  split at h
  · rename_i xs e
    obtain ⟨b, vs, rfl, hq, g1, r1⟩ := list_of ok rr e
    split at h
    · rename_i is e2
      have ev := intsOf_ok r1 e2
      subst ev
      split at h
      · exact h.elim
      · exact ⟨b, is, rfl, hq, kE_d h ok (.int _)⟩
    · exact h.elim
  · exact h.elim
end
/-! ### zip of two lists, of two tuples -/
def zipD : List D → List D → List D
  | x :: xs, y :: ys => .tup [x, y] :: zipD xs ys
  | _, _ => []
theorem zipD_get : ∀ (xs ys : List D) (i : Nat) (z : D), (zipD xs ys)[i]? = some z → ∃ x y, xs[i]? = some x ∧ ys[i]? = some y ∧ z = .tup [x, y]
  | [], _, _, _, h => by cases h
  | _ :: _, [], _, _, h => by cases h
  | x :: xs, y :: ys, 0, z, h => ⟨x, y, rfl, rfl, by simpa [zipD] using h.symm⟩
  | x :: xs, y :: ys, i + 1, z, h => by
    obtain ⟨x', y', h1, h2, h3⟩ := zipD_get xs ys i z (by simpa [zipD] using h)
    exact ⟨x', y', by simpa using h1, by simpa using h2, h3⟩
theorem zipD_len : ∀ (xs ys : List D), xs.length ≤ (zipD xs ys).length ∨ ys.length ≤ (zipD xs ys).length
  | [], _ => .inl (Nat.zero_le _)
  | _ :: _, [] => .inr (Nat.zero_le _)
  | x :: xs, y :: ys => by
    rcases zipD_len xs ys with h | h
    · exact .inl (by simp [zipD]; omega)
    · exact .inr (by simp [zipD]; omega)
def iZipM (m : S → Res (List D)) : S → Res (List D) := fun s => (m s).bind fun ds s1 => match ds with
  | [.lst xs, .lst ys] => .ok (zipD xs ys) s1
  | [.tup xs, .tup ys] => .ok (zipD xs ys) s1
  | _ => .stuck
theorem walk_zipL {K : PySem.W.Frag} {g : G} {a b : Addr} {vs ws : List V} {xs ys : List D} (h : SqL K g.F a vs) (h' : SqL K g.F b ws) (r : RepL K g vs xs) (r' : RepL K g ws ys) : Walk K (Itz K a b) (zipD xs ys) g := by
  intro g' s' σ' H' l ok
  have hq : SqL K H' a vs := sqL_mono (l.F.trans ok.sub) h
  have hq' : SqL K H' b ws := sqL_mono (l.F.trans ok.sub) h'
  refine ⟨⟨vs, ws, hq, hq', by rw [r.length, r'.length]; exact zipD_len xs ys⟩, fun i d e => ?_⟩
  obtain ⟨x, y, hx, hy, rfl⟩ := zipD_get xs ys i d e
  obtain ⟨v, hv, rv⟩ := r.get hx
  obtain ⟨w, hw, rw'⟩ := r'.get hy
  refine ⟨⟨vs, ws, v, w, hq, hq', hv, hw⟩, fun x H'' ⟨T, z1, z2, ex, hT, eH, e2, e3⟩ => ?_⟩
  subst ex eH
  have e4 := e2 vs hq
  rw [hv] at e4
  cases e4
  have e5 := e3 ws hq'
  rw [hw] at e5
  cases e5
  have k1 := ok.grow (o := .tup [v, w]) hT
  have k2 := k1.frz (o := .tup [v, w]) upd_same (ok.fnone hT) (ok.pnone hT) (ok.lnone hT)
  refine ⟨g'.frz T (.tup [v, w]), (Step.grow ok hT).trans (Step.frz (ok.fnone hT)), SlKeep.refl _, k2, ?_⟩
  exact .tup (.inl (.inl upd_same)) (.cons ((rv.mono l).mono (frz_le (ok.fnone hT))) (.cons ((rw'.mono l).mono (frz_le (ok.fnone hT))) .nil))
theorem walk_zipT {K : PySem.W.Frag} {g : G} {a b : Addr} {vs ws : List V} {xs ys : List D} (h : SqT K g.F a vs) (h' : SqT K g.F b ws) (r : RepL K g vs xs) (r' : RepL K g ws ys) : Walk K (RZ.ItzT K a b) (zipD xs ys) g := by
  intro g' s' σ' H' l ok
  have hq : SqT K H' a vs := sqT_mono (l.F.trans ok.sub) h
  have hq' : SqT K H' b ws := sqT_mono (l.F.trans ok.sub) h'
  refine ⟨⟨vs, ws, hq, hq', by rw [r.length, r'.length]; exact zipD_len xs ys⟩, fun i d e => ?_⟩
  obtain ⟨x, y, hx, hy, rfl⟩ := zipD_get xs ys i d e
  obtain ⟨v, hv, rv⟩ := r.get hx
  obtain ⟨w, hw, rw'⟩ := r'.get hy
  refine ⟨⟨vs, ws, v, w, hq, hq', hv, hw⟩, fun x H'' ⟨T, z1, z2, ex, hT, eH, e2, e3⟩ => ?_⟩
  subst ex eH
  have e4 := e2 vs hq
  rw [hv] at e4
  cases e4
  have e5 := e3 ws hq'
  rw [hw] at e5
  cases e5
  have k1 := ok.grow (o := .tup [v, w]) hT
  have k2 := k1.frz (o := .tup [v, w]) upd_same (ok.fnone hT) (ok.pnone hT) (ok.lnone hT)
  refine ⟨g'.frz T (.tup [v, w]), (Step.grow ok hT).trans (Step.frz (ok.fnone hT)), SlKeep.refl _, k2, ?_⟩
  exact .tup (.inl (.inl upd_same)) (.cons ((rv.mono l).mono (frz_le (ok.fnone hT))) (.cons ((rw'.mono l).mono (frz_le (ok.fnone hT))) .nil))
section
variable {X : Cx} {W : WX} {e e2 : Expr} {m : S → Res (List D)} {p pos tpos : Pos} {elts : List Expr} {kk : Nat}
theorem mi_zip (ha : MA X W [e, e2] m) (hg : Gl X "zip") (hm : X.mg "zip" = none) (hs : starEach [e, e2] X.env = (false, eval e X.env) :: starEach [e2] X.env := by rfl) (hpl : (backTo pos (starEach [e2] X.env)).any (·.1) = false := by rfl) :
    MIt X W (.Tuple elts kk tpos) (.Call (.Name "zip" p) [e, e2] [] pos) (iZipM m) := by
  refine pi_imp (RZ.pi_zipA hg hm ha hs hpl) fun σ H R h => ?_
  obtain ⟨g, s, ok, h⟩ := h
  refine ⟨g, s, ok, (PostE.bind h).mono fun ds g1 s1 H1 t1 k1 o1 h1 vs rs => ?_⟩
  split at h1
  · cases rs with
    | cons r1 rs =>
      cases rs with
      | cons r2 rs =>
        cases rs
        cases r1 with
        | lst hq r =>
          cases r2 with
          | lst hq' r' => exact ⟨_, _, _, _, rfl, .inl ⟨.of (o1.sub _ _ hq), .of (o1.sub _ _ hq'), PostE.done h1 o1 _ (walk_zipL (.of hq) (.of hq') r r')⟩⟩
  · cases rs with
    | cons r1 rs =>
      cases rs with
      | cons r2 rs =>
        cases rs
        cases r1 with
        | tup hq r =>
          cases r2 with
          | tup hq' r' => exact ⟨_, _, _, _, rfl, .inr ⟨sqT_mono o1.sub hq, sqT_mono o1.sub hq', PostE.done h1 o1 _ (walk_zipT hq hq' r r')⟩⟩
  · exact h1.elim
end
end MI
/-! # Sets made of a tuple, sorted -/
namespace MI
open PySem PySem.Spec PyProof.Rows L2
section
variable {P : Program} {w : World} {A : Around} {E : Value → Shared → Prop} {s : Shared} {a : Addr} {l : List Key}
/-- set of a tuple -/
theorem call_set_keysT {l : Addr} {items : Array Value} (ks : List Key) {Q : Value → Shared → Prop} (hh : A.handled = none) (hl : s.heap.IsTuple l items) (hit : ∀ (i : Nat) (v : Value), items[i]? = some v → ∃ k, ks[i]? = some k ∧ keyIs k v = true) (hsz : items.size = ks.length)
    (hb : ks.length + 1 < scanBound)
    (h : ∀ (h' : Heap) (tk : Nat), KSet w h' s.heap.objs.size (uniK ks) → (∀ b o, s.heap.get? b = some o → h'.get? b = some o) → Q (.ref s.heap.objs.size) { s with heap := h', toks := tk }) :
    wpAny (model P w) A (call (.type "set") [.ref l]) Q E s := by
  obtain ⟨c, tl, hmro⟩ := F.called_set.mro
  have hmade := F.called_set.made
  have hsub := F.called_set.sub
  refine wpAny_call (codeAny_of_tree ?_)
  show wpAny _ _ (callAny (.type "set") _) _ _ _
  refine wpAny_pure ⟨Code.quiet_builtin _ (by decide +kernel), codeAny_builtin F.entry_type_call ?_⟩
  rw [Around.under_plain (weight_type_call_type "set" [.ref l] []) rfl]
  have h1 := F.called_set.notType
  have h2 := F.called_set.canCreate
  have hct := F.typeCall_set_1 (.ref l)
  repeat (any_goals (first | assumption | wp_step))

  refine codeAny_mono (code_set_led1 (.ref l) (E := E) (Q₁ := fun obj s₁ => obj = .ref s.heap.objs.size ∧ s₁ = { s with heap := s.heap.push { cls := .type "set", dict := none, data := .set #[] 0 (.fresh 0 0 (!w.params.followText "set-order")) } }) ⟨rfl, rfl⟩) fun r s₁ hr => ?_
  cases r with
  | error e => exact hr
  | ok fl =>
    cases fl with
    | ret obj =>
      obtain ⟨rfl, rfl⟩ := hr
      have hS : (s.heap.push { cls := .type "set", dict := none, data := .set #[] 0 (.fresh 0 0 (!w.params.followText "set-order")) }).get? s.heap.objs.size = some { cls := .type "set", dict := none, data := .set #[] 0 (.fresh 0 0 (!w.params.followText "set-order")) } := Heap.get?_push_size _ rfl
      have hT : Shared.TypeIs { s with heap := s.heap.push { cls := .type "set", dict := none, data := .set #[] 0 (.fresh 0 0 (!w.params.followText "set-order")) } } (.ref s.heap.objs.size) "set" := ⟨_, hS, rfl⟩
      have hli := F.called_set.init.lookup
      have hbi := F.called_set.init.bind (.ref s.heap.objs.size)
      repeat (any_goals (first | assumption | wp_step))

      refine codeAny_mono (codeAny_call_builtin (R := wants (fun r s₂ => r = .none ∧ ∃ h' tk, s₂ = { s with heap := h', toks := tk } ∧ KSet w h' s.heap.objs.size (uniK ks) ∧
          (∀ b o, s.heap.get? b = some o → h'.get? b = some o)) E) F.called_set.init.plain F.entry_set_init (check_set_init_1 hT ?_)) fun r₂ s₂ hr₂ => ?_
      · obtain ⟨ol, hol, hcl, nl, hdl⟩ := hl
        obtain ⟨ocls, odict, odata, oslots⟩ := ol
        simp only at hcl hdl
        subst hcl; subst hdl
        have hol' : (s.heap.push { cls := .type "set", dict := none, data := .set #[] 0 (.fresh 0 0 (!w.params.followText "set-order")) }).get? l = some { cls := .type "tuple", dict := odict, data := .seq items nl, slots := oslots } := Heap.get?_push_of_some _ hol
        have hsls := F.sub_tuple_set
        have hslf := F.sub_tuple_frozenset
        have hne : (Value.type "tuple" == Value.type "dict") = false := by decide
        have hl1 : (s.heap.push { cls := .type "set", dict := none, data := .set #[] 0 (.fresh 0 0 (!w.params.followText "set-order")) }).IsTuple l items := ⟨_, hol', rfl, nl, rfl⟩
        unfold Builtin.«set.__init__» noKeywords Builtin.Frozenset.updateFrom
        generalize hPI : pyIter = PI
        wp_walk
        subst hPI

        refine wpAny_pyIter_tuple hl1 ?_
        refine wpAny_bind (wpAny_runValue ?_)
        have hlS : l < s.heap.objs.size := Heap.lt_size hol
        have hh3 : A.in1.in1.in1.handled = none := by simp [hh]
        have hneI : l ≠ (s.heap.push { cls := .type "set", dict := none, data := .set #[] 0 (.fresh 0 0 (!w.params.followText "set-order")) }).objs.size := by
          rw [Heap.size_push]; exact Nat.ne_of_lt (Nat.lt_succ_of_lt hlS)
        have hSf : s.heap.objs.size ∉ [(s.heap.push { cls := .type "set", dict := none, data := .set #[] 0 (.fresh 0 0 (!w.params.followText "set-order")) }).objs.size, l] := by
          rw [Heap.size_push]; simp only [List.mem_cons, List.mem_singleton, List.not_mem_nil, or_false, not_or]
          exact ⟨Nat.ne_of_lt (Nat.lt_succ_self _), Nat.ne_of_gt hlS⟩
        refine set_update_keys ((Walks.tuple hh3 _ l hneI items).toS) s.heap.objs.size
          hSf ks hsz hb hit (items.size - 0) 0 _ (by omega) (Nat.zero_le _)
          ⟨⟨_, Heap.get?_push_size _ rfl, rfl, rfl⟩, (hl1.push _)⟩ ?hS0 ?hR
        case hS0 =>
          have hget : ((s.heap.push { cls := .type "set", dict := none, data := .set #[] 0 (.fresh 0 0 (!w.params.followText "set-order")) }).push { cls := .type "tuple_iterator", data := .fields #[.ref l, .int 0 0] }).get? s.heap.objs.size
              = some { cls := .type "set", dict := none, data := .set #[] 0 (.fresh 0 0 (!w.params.followText "set-order")) } := Heap.get?_push_of_some _ hS
          exact kset_fresh hget
        case hR =>
          intro s' hm hS'
          obtain ⟨h', g', d', tk', os'⟩ := s'
          have eg : g' = s.gens := hm.gens
          have ed : d' = s.drawn := hm.drawn
          have eo : os' = s.os := hm.os
          subst eg; subst ed; subst eo
          show wpAny _ _ _ _ _ _
          refine wpAny_pure ?_
          show wpAny _ _ (ret Value.none) _ _ _
          refine wpAny_pure ⟨rfl, h', tk', rfl, hS', fun b o e => ?_⟩
          have hb' : b < s.heap.objs.size := Heap.lt_size e
          have hb1 : b ≠ s.heap.objs.size := Nat.ne_of_lt hb'
          have hb2 : b ≠ (s.heap.push { cls := .type "set", dict := none, data := .set #[] 0 (.fresh 0 0 (!w.params.followText "set-order")) }).objs.size := by
            rw [Heap.size_push]; exact Nat.ne_of_lt (Nat.lt_succ_of_lt hb')
          exact hm.heap b o (by simp only [List.mem_cons, List.mem_singleton, List.not_mem_nil, or_false, not_or]; exact ⟨hb1, hb2⟩) (Heap.get?_push_of_some _ (Heap.get?_push_of_some _ e))

      · cases r₂ with
        | error e => exact hr₂
        | ok fl₂ =>
          cases fl₂ with
          | ret r =>
            obtain ⟨rfl, h', tk, rfl, hS', hk'⟩ := hr₂
            repeat (any_goals (first | assumption | wp_step))
            exact h _ _ hS' hk'
          | _ => exact hr₂.elim
    | _ => exact hr.elim
end
section
variable {X : Cx}
def rSetT (K : PySem.W.Frag) (w : World) : List V → Hp → VK → Prop := fun xs H Q => ∃ (l : Addr) (ks : List Key), xs = [V.ref l] ∧ SqT K H l (ks.map kV) ∧ ks.length ≤ 1000 ∧ ∀ a, H a = none → Q (.ref a) (upd H a (SetJ w a (uniK ks)))
theorem cr_setT (hc : X.calm = true) : CallR X (.type "set") (rSetT X.K X.w) := by
  intro pins s σ H xs us Q I r h
  obtain ⟨l, ks, rfl, hl, hf, q⟩ := h
  rw [Vals.ref1 r]
  obtain ⟨its, rv, pl, hz⟩ := I.tuple hl
  have hn : H s.heap.objs.size = none := I.hok.fresh (Nat.le_refl _)
  have hlen := rv.length
  rw [List.length_map] at hlen
  refine call_set_keysT (P := X.prog) (w := X.w) ks (I.ok.hd hc) pl (fun i v h => keys_vals X.prog X.w rv i v (by simpa using h)) (by simp [hlen]) (by unfold scanBound; omega) fun h' tk R k => ?_
  exact ⟨.ref s.heap.objs.size, upd H s.heap.objs.size (SetJ X.w s.heap.objs.size (uniK ks)), I.laid (t' := tk) k (Nat.le_refl _) (setJ_new R), rfl, q _ hn⟩
end
def fSortedSetT : S → RV → Res RV := fun s r => match asD s r with
  | some (.tup xs) => (match strsOf xs with
    | some ks => if ks.length ≤ 1000 then .ok (.new (.lst ((sortS (uni ks)).map .str))) s else .stuck
    | none => (match intsOf xs with
      | some is => if is.length ≤ 1000 then .ok (.new (.lst ((sortI (uni is)).map .int))) s else .stuck
      | none => .stuck))
  | _ => .stuck
section
variable {X : Cx} {W : WX} {a : Expr} {ma : M} {pos p p2 q : Pos}
theorem tup_of {g : G} {s : S} {σ : L2.St} {H : Hp} {v : V} {rv : RV} {xs : List D} (ok : Ok X.K g s σ H) (rr : RepRV X.K g s H v rv) (e : asD s rv = some (.tup xs)) : ∃ b vs, v = .ref b ∧ SqT X.K H b vs ∧ ∃ g1 : G, RepL X.K g1 vs xs := by
  obtain ⟨g1, l, sb, rp⟩ := asD_ok ok (GLe.refl g) ok.sub rr e
  cases rp with
  | @tup b vs _ h1 r1 => exact ⟨b, vs, rfl, sqT_mono sb h1, g1, r1⟩
theorem me_sortedSetT (hc : X.calm = true) (ha : ME X W a ma) (hg : Gl X "sorted") (hm : X.mg "sorted" = none) (hg2 : Gl X "set") (hm2 : X.mg "set" = none)
    (hs : starEach [a] X.env = (false, eval a X.env) :: starEach [] X.env := by rfl)
    (hs2 : starEach [.Call (.Name "set" p2) [a] [] q] X.env = (false, eval (.Call (.Name "set" p2) [a] [] q) X.env) :: starEach [] X.env := by rfl) :
    ME X W (.Call (.Name "sorted" p) [.Call (.Name "set" p2) [a] [] q] [] pos) (mFn1 fSortedSetT ma) := by
  refine pe_imp (pe_callB (cr_sortJ hc) hg hm (by decide +kernel) (pa_cons (pe_callTy (cr_setT hc) hg2 hm2 boot_set (pa_cons ha pa_nil hs) (he := hs)) pa_nil hs2) (he := hs2)) fun σ H Q ⟨g, s, ok, h⟩ => ?_
  refine ma_one (r := fun vs H Q => rSetT X.K X.w vs H fun x H1 => rSortJ X.w [x] H1 Q) (fun σ g s H Q v rv ok rr h => ?_) ok h
  unfold fSortedSetT at h
  split at h
  · rename_i xs e
    obtain ⟨b, vs, rfl, hq, g1, r1⟩ := tup_of ok rr e
    split at h
    · rename_i ks e2
      have ev := strsOf_ok r1 e2
      subst ev
      split at h
      · rename_i hl
        refine ⟨b, ks.map Sum.inr, rfl, ?_, by rw [List.length_map]; exact hl, fun a hn => ?_⟩
        · rw [List.map_map]; exact hq
        · rw [uniK_str]
          refine .inl ⟨a, uni ks, rfl, upd_same, Nat.le_trans (uni_len ks) hl, fun ys p hp hy hn2 => ?_⟩
          have := sortS_uniq hp hy
          subst this
          have ok1 := ok.grow (o := SetJ X.w a ((uni ks).map Sum.inr)) hn
          exact h g _ ((Step.grow ok hn).trans (Step.grow ok1 hn2)) (SlKeep.refl _) (ok1.grow hn2) _ ⟨p, rfl, ok1.fnone hn2, ok1.pnone hn2, ok1.lnone hn2, ⟨_, upd_same, repL_strs _⟩⟩
      · exact h.elim
    · split at h
      · rename_i is e2
        have ev := intsOf_ok r1 e2
        subst ev
        split at h
        · rename_i hl
          refine ⟨b, is.map Sum.inl, rfl, ?_, by rw [List.length_map]; exact hl, fun a hn => ?_⟩
          · rw [List.map_map]; exact hq
          · rw [uniK_int]
            refine .inr ⟨a, uni is, rfl, upd_same, Nat.le_trans (uni_len is) hl, fun ys p hp hy hn2 => ?_⟩
            have := sortI_uniq hp hy
            subst this
            have ok1 := ok.grow (o := SetJ X.w a ((uni is).map Sum.inl)) hn
            exact h g _ ((Step.grow ok hn).trans (Step.grow ok1 hn2)) (SlKeep.refl _) (ok1.grow hn2) _ ⟨p, rfl, ok1.fnone hn2, ok1.pnone hn2, ok1.lnone hn2, ⟨_, upd_same, repL_ints _⟩⟩
        · exact h.elim
      · exact h.elim
  · exact h.elim
end
end MI
/-! # List comprehensions over two -/
namespace MI
open PySem L2
def compGo2 (vs vs1 : List Nat) (t : D → S → Option S) (c : S → Res Bool) (it1 : S → Res (List D)) (t1 : D → S → Option S) (c1 : S → Res Bool) (e : S → Res D) : List D → List D → S → Option (List D × S)
  | [], acc, s => some (acc, s)
  | d :: ds, acc, s => match t d s with
    | none => none
    | some s1 => match c s1 with
      | .ok b s2 => if b = true then (match it1 s2 with
          | .ok ds1 s3 => (match compGo vs1 t1 c1 e ds1 acc (wipeS s3 vs1) with
            | some (acc1, s4) => compGo2 vs vs1 t c it1 t1 c1 e ds acc1 (wipeS s4 vs)
            | none => none)
          | _ => none)
        else compGo2 vs vs1 t c it1 t1 c1 e ds acc (wipeS s2 vs)
      | _ => none
def mComp2 (vs vs1 : List Nat) (it : S → Res (List D)) (t : D → S → Option S) (c : S → Res Bool) (it1 : S → Res (List D)) (t1 : D → S → Option S) (c1 : S → Res Bool) (e : M) : M := fun s => (it s).bind fun ds s1 => if noOwn s1.env vs = true then (match compGo2 vs vs1 t c it1 t1 c1 (mLeak e) ds [] (wipeS s1 vs) with
  | some (acc, s2) => .ok (.new (.lst acc)) { s2 with env := restE s1.env s2.env vs }
  | none => .stuck) else .stuck
theorem wipe_in {σ : St} {vs vs1 : List Nat} (h : ∀ i ∈ vs1, i ∈ vs) : wipe (wipe σ vs1) vs = wipe σ vs := by
  apply List.ext_getElem?
  intro i
  rw [wipe_get (wipe σ vs1) vs i, wipe_get σ vs i]
  by_cases hi : i ∈ vs
  · rw [if_pos hi, if_pos hi, wipe_get]
    split
    · cases σ[i]? <;> rfl
    · rfl
  · rw [if_neg hi, if_neg hi, wipe_get, if_neg fun z => hi (h i z)]
section
variable {K : PySem.W.Frag}
/-- what has been kept so far in the list at D, begun at g0, H0 -/
structure Kp (K : PySem.W.Frag) (D : Addr) (g0 : G) (H0 : Hp) (g : G) (H : Hp) (acc : List MI.D) (avs : List V) : Prop where
  st : Step (g0.hold D) (upd H0 D (.lst [])) (g.wP (g0.hold D).P) (upd H D (.lst []))
  sk : SlKeep g0 g
  pp : g.P = (g0.hold D).P
  at_ : H D = some (.lst avs)
  rep : RepL K g avs acc
variable {D : Addr} {g0 g : G} {H0 H : Hp} {acc : List MI.D} {avs : List V}
theorem Kp.pD (k : Kp K D g0 H0 g H acc avs) : g.P D := by rw [k.pp]; exact .inr rfl
theorem Kp.le (k : Kp K D g0 H0 g H acc avs) : GLe g0 g := ⟨k.st.le.F, k.st.le.ng, k.st.le.adr⟩
theorem Kp.step (k : Kp K D g0 H0 g H acc avs) {g3 : G} {H3 : Hp} (t : Step g H g3 H3) (sk : SlKeep g g3) : Kp K D g0 H0 g3 H3 acc avs := by
  have p3 : g3.P = (g0.hold D).P := t.P.trans k.pp
  refine ⟨⟨⟨k.st.le.F.trans t.le.F, Nat.le_trans k.st.le.ng t.le.ng, fun n hn => (t.le.adr n (Nat.lt_of_lt_of_le hn k.st.le.ng)).trans (k.st.le.adr n hn)⟩, rfl, fun b hb => ?_⟩, fun j => (sk j).trans (k.sk j), p3, (t.keep D k.pD).trans k.at_, k.rep.mono t.le⟩
  by_cases hbD : b = D
  · rw [hbD, upd_same, upd_same]
  · have q := k.st.keep b hb
    rw [upd_ne hbD, upd_ne hbD] at q ⊢
    exact (t.keep b (by rw [k.pp]; exact hb)).trans q
/-- the list at D grows: it is nobody's in the store -/
theorem Kp.grow (k : Kp K D g0 H0 g H acc avs) {s : S} {σ : St} (o : Ok K g s σ H) {v : V} {y : MI.D} (ry : Rep K g v y) : Kp K D g0 H0 g (upd H D (.lst (avs ++ [v]))) (acc ++ [y]) (avs ++ [v]) ∧ Ok K g s σ (upd H D (.lst (avs ++ [v]))) := by
  obtain ⟨_, f5, l5⟩ := o.prot D k.pD
  refine ⟨⟨by rw [upd_upd]; exact k.st, k.sk, k.pp, upd_same, k.rep.append (.one ry)⟩, ⟨fun b u e => ?_, fun l z e => ?_, o.inj, o.env, o.len, o.ng, fun b p => ?_⟩⟩
  · rw [upd_ne (fun z => by rw [z, f5] at e; cases e)]; exact o.sub b u e
  · obtain ⟨f, r⟩ := o.cell l z e
    exact ⟨f, r.mono (GLe.refl _) (upd_ne fun q => l5 ⟨l, z, e, q⟩)⟩
  · obtain ⟨h1, h2, h3⟩ := o.prot b p
    refine ⟨?_, h2, h3⟩
    by_cases z : b = D
    · exact ⟨_, by rw [z]; exact upd_same⟩
    · rw [upd_ne z]; exact h1
/-- the inner loop -/
theorem loop_in {vs1 is1 : List Nat} {gt1 : TG} {t1 : MI.D → S → Option S} {mc1 : S → Res Bool} {me : M} {σ2 : St} (hgt : MGk K gt1 is1 t1) (hsub : ∀ i ∈ is1, i ∈ vs1) {J1 : It} {ds1 : List MI.D} {gA : G} (hJ : Walk K J1 ds1 gA)
    {acc0 : List MI.D} {avs0 : List V} {sA s1f : S} {acc1 : List MI.D} (k0 : Kp K D g0 H0 gA H acc0 avs0) (oA : Ok K gA sA (wipe σ2 vs1) H) (hgo : compGo vs1 t1 mc1 (mLeak me) ds1 acc0 sA = some (acc1, s1f)) {Nx : Hp → Prop}
    (hN : ∀ g' H' avs, GLe gA g' → Kp K D g0 H0 g' H' acc1 avs → Ok K g' s1f (wipe σ2 vs1) H' → Nx H') :
    ∃ W1 : Nat → Nat → Hp → Prop, (∃ m, W1 0 m H) ∧ ∀ j k H, W1 j k H →
      (J1.stop j H ∧ Nx H) ∨ (J1.go j H ∧ ∃ Nx1 : Hp → Prop, (∀ H', Nx1 H' → ∃ k', k' < k ∧ W1 (j + 1) k' H') ∧ ∀ x H', J1.yld j H x H' → gt1 x (wipe σ2 vs1) H' fun σ3 H5 => wipe σ3 vs1 = wipe σ2 vs1 ∧ tMT K W0 mc1 σ3 H5 fun b H6 =>
        if b = true then tM K W0 me σ3 H6 fun y H7 => ∃ acc, H7 D = some (.lst acc) ∧ acc.length < sizeLine ∧ Nx1 (upd H7 D (.lst (acc ++ [y]))) else Nx1 H6) := by
  refine ⟨fun j k H' => k = ds1.length - j ∧ j ≤ ds1.length ∧ ∃ g' s' acc avs, GLe gA g' ∧ Kp K D g0 H0 g' H' acc avs ∧ Ok K g' s' (wipe σ2 vs1) H' ∧ compGo vs1 t1 mc1 (mLeak me) (ds1.drop j) acc s' = some (acc1, s1f),
    ⟨ds1.length, by simp, Nat.zero_le _, gA, sA, acc0, avs0, GLe.refl _, k0, oA, by simpa using hgo⟩, ?_⟩
  rintro j k H' ⟨rfl, hj, g', s', acc, avs, lg, kp, o', hg'⟩
  obtain ⟨stp, go⟩ := hJ g' s' _ H' lg o'
  by_cases hlt : j < ds1.length
  · obtain ⟨d, hd⟩ : ∃ d, ds1[j]? = some d := ⟨_, List.getElem?_eq_getElem hlt⟩
    have hdrop : ds1.drop j = d :: ds1.drop (j + 1) := by
      rw [List.drop_eq_getElem_cons hlt]
      congr 1
      rw [List.getElem?_eq_getElem hlt] at hd
      exact Option.some.inj hd
    obtain ⟨go1, yl⟩ := go j d hd
    refine .inr ⟨go1, fun H3 => ∃ g3 s3 acc avs, GLe gA g3 ∧ Kp K D g0 H0 g3 H3 acc avs ∧ Ok K g3 s3 (wipe σ2 vs1) H3 ∧ compGo vs1 t1 mc1 (mLeak me) (ds1.drop (j + 1)) acc s3 = some (acc1, s1f), fun H3 z => ⟨ds1.length - (j + 1), by omega, rfl, hlt, z⟩, fun x H2 y => ?_⟩
    obtain ⟨g2, t2, k2, o2, r2⟩ := yl x H2 y
    rw [hdrop] at hg'
    unfold compGo at hg'
    cases e : t1 d s' with
    | none => simp only [e] at hg'; cases hg'
    | some s2 =>
      simp only [e] at hg'
      obtain ⟨ws, o2', hQ⟩ := hgt g2 s' (wipe σ2 vs1) H2 x d s2 o2 r2 e
      have wq : wipe (setAll (wipe σ2 vs1) is1 ws) vs1 = wipe σ2 vs1 := wipe_setAll hsub
      refine hQ _ ⟨wq, g2, s2, o2', ?_⟩
      have kp2 := kp.step t2 k2
      have lg2 := lg.trans t2.le
      cases e2 : mc1 s2 with
      | ok b s3 =>
        simp only [e2] at hg'
        intro g3 H3 t3 k3 o3
        show (if b = true then _ else _)
        cases b with
        | true =>
          rw [if_pos rfl] at hg'
          rw [if_pos rfl]
          unfold mLeak at hg'
          refine ⟨g3, s3, o3, ?_⟩
          cases e3 : me s3 with
          | ok r s4 =>
            simp only [e3, Res.bind_ok] at hg'
            intro g4 H4 t4 k4 o4 v rv
            cases e4 : leak r s4 with
            | none => simp only [e4] at hg'; cases hg'
            | some pr =>
              obtain ⟨y, s5⟩ := pr
              simp only [e4] at hg'
              obtain ⟨g5, t5, k5, o5, ry⟩ := leak_ok o4 rv e4
              have kp5 := kp2.step ((t3.trans t4).trans t5) ((k3.trans k4).trans k5)
              by_cases hz : acc.length < sizeLine
              · rw [if_pos hz] at hg'
                obtain ⟨kp6, o6⟩ := kp5.grow o5 ry
                have ow := o6.wipe (vs := vs1)
                rw [wq] at ow
                exact ⟨avs, kp5.at_, by rw [kp5.rep.length]; exact hz, g5, wipeS s5 vs1, acc ++ [y], avs ++ [v], lg2.trans ((t3.trans t4).trans t5).le, kp6, ow, hg'⟩
              · rw [if_neg hz] at hg'; cases hg'
          | exc c p s4 => simp only [e3, Res.bind_exc] at hg'; cases hg'
          | stuck => simp only [e3, Res.bind_stuck] at hg'; cases hg'
        | false =>
          rw [if_neg (by decide)] at hg'
          rw [if_neg (by decide)]
          have ow := o3.wipe (vs := vs1)
          rw [wq] at ow
          exact ⟨g3, wipeS s3 vs1, acc, avs, lg2.trans t3.le, kp2.step t3 k3, ow, hg'⟩
      | exc c p s3 => simp only [e2] at hg'; cases hg'
      | stuck => simp only [e2] at hg'; cases hg'
  · have e : j = ds1.length := by omega
    subst e
    refine .inl ⟨stp, ?_⟩
    rw [List.drop_length] at hg'
    cases hg'
    exact hN g' H' avs lg kp o'
end
section
variable {X : Cx} {W : WX}
theorem tLc2_of {vs vs1 is is1 : List Nat} {it it1 : S → Res (List D)} {gt gt1 : TG} {t t1 : D → S → Option S} {mc mc1 : S → Res Bool} {me : M} {σ : St} {H : Hp} {Q : VK} {g : G} {s : S}
    (hgt : MGk X.K gt is t) (hsub : ∀ i ∈ is, i ∈ vs) (hgt1 : MGk X.K gt1 is1 t1) (hsub1 : ∀ i ∈ is1, i ∈ vs1) (hv : ∀ i ∈ vs1, i ∈ vs)
    (ok : Ok X.K g s σ H) (h : PostE X.K W σ g s H (kE X.K Q) (mComp2 vs vs1 it t mc it1 t1 mc1 me s)) :
    tLc2 (tMI X.K W it) gt (tMT X.K W0 mc) (tMI X.K W0 it1) gt1 (tMT X.K W0 mc1) (tM X.K W0 me) vs vs1 σ H Q := by
  refine ⟨g, s, ok, (PostE.bind h).mono fun ds g1 s1 H1 tt1 k1 o1 h1 J hJ D hD => ?_⟩
  split at h1
  · rename_i hno
    split at h1
    · rename_i acc0 s0 hgo
      have ok2 := o1.grow (o := .lst []) hD
      have hold := ok2.hold (a := D) (u := .lst []) upd_same (o1.fnone hD) (o1.lnone hD)
      refine ⟨fun i m H' => m = ds.length - i ∧ i ≤ ds.length ∧ ∃ g' s' acc avs, Kp X.K D g1 H1 g' H' acc avs ∧ Ok X.K g' s' (wipe σ vs) H' ∧ compGo2 vs vs1 t mc it1 t1 mc1 (mLeak me) (ds.drop i) acc s' = some (acc0, s0),
        ⟨ds.length, by simp, Nat.zero_le _, g1.hold D, wipeS s1 vs, [], [], ⟨⟨⟨Sub.refl _, Nat.le_refl _, fun _ _ => rfl⟩, rfl, fun b _ => by rw [upd_upd]⟩, SlKeep.refl _, rfl, upd_same, .nil⟩, hold.wipe, by simpa using hgo⟩, ?_⟩
      rintro i m H' ⟨rfl, hi, g', s', acc, avs, kp, o', hg'⟩
      obtain ⟨stp, go⟩ := hJ g' s' _ H' kp.le o'
      by_cases hlt : i < ds.length
      · obtain ⟨d, hd⟩ : ∃ d, ds[i]? = some d := ⟨_, List.getElem?_eq_getElem hlt⟩
        have hdrop : ds.drop i = d :: ds.drop (i + 1) := by
          rw [List.drop_eq_getElem_cons hlt]
          congr 1
          rw [List.getElem?_eq_getElem hlt] at hd
          exact Option.some.inj hd
        obtain ⟨go1, yl⟩ := go i d hd
        refine .inr ⟨go1, fun H3 => ∃ g3 s3 acc avs, Kp X.K D g1 H1 g3 H3 acc avs ∧ Ok X.K g3 s3 (wipe σ vs) H3 ∧ compGo2 vs vs1 t mc it1 t1 mc1 (mLeak me) (ds.drop (i + 1)) acc s3 = some (acc0, s0), fun H3 z => ⟨ds.length - (i + 1), by omega, rfl, hlt, z⟩, fun x H2 y => ?_⟩
        obtain ⟨g2, t2, k2, o2, r2⟩ := yl x H2 y
        rw [hdrop] at hg'
        unfold compGo2 at hg'
        cases e : t d s' with
        | none => simp only [e] at hg'; cases hg'
        | some s2 =>
          simp only [e] at hg'
          obtain ⟨ws, o2', hQ⟩ := hgt g2 s' (wipe σ vs) H2 x d s2 o2 r2 e
          have wq : wipe (setAll (wipe σ vs) is ws) vs = wipe σ vs := wipe_setAll hsub
          refine hQ _ ⟨wq, g2, s2, o2', ?_⟩
          have kp2 := kp.step t2 k2
          cases e2 : mc s2 with
          | ok b s3 =>
            simp only [e2] at hg'
            intro g3 H3 t3 k3 o3
            show (if b = true then _ else _)
            have kp3 := kp2.step t3 k3
            cases b with
            | true =>
              rw [if_pos rfl] at hg'
              rw [if_pos rfl]
              refine ⟨g3, s3, o3, ?_⟩
              cases e3 : it1 s3 with
              | ok ds1 s4 =>
                simp only [e3] at hg'
                intro g4 H4 t4 k4 o4 J1 hJ1
                have kp4 := kp3.step t4 k4
                split at hg'
                · rename_i acc1 s5 hin
                  refine loop_in hgt1 hsub1 hJ1 kp4 o4.wipe hin fun g6 H6 avs6 lg6 kp6 o6 => ?_
                  have ow := o6.wipe (vs := vs)
                  rw [wipe_in hv, wq] at ow
                  exact ⟨g6, wipeS s5 vs, acc1, avs6, kp6, ow, hg'⟩
                · cases hg'
              | exc c p s4 => simp only [e3] at hg'; cases hg'
              | stuck => simp only [e3] at hg'; cases hg'
            | false =>
              rw [if_neg (by decide)] at hg'
              rw [if_neg (by decide)]
              have ow := o3.wipe (vs := vs)
              rw [wq] at ow
              exact ⟨g3, wipeS s3 vs, acc, avs, kp3, ow, hg'⟩
          | exc c p s3 => simp only [e2] at hg'; cases hg'
          | stuck => simp only [e2] at hg'; cases hg'
      · have e : i = ds.length := by omega
        subst e
        refine .inl ⟨stp, ?_⟩
        rw [List.drop_length] at hg'
        cases hg'
        have ob := o'.unhold (g0 := g1) (a := D) kp.pp
        obtain ⟨_, fD, lD⟩ := o'.prot D kp.pD
        have npD : ¬ g1.P D := o1.pnone hD
        have lg := kp.le
        have obr := o1.rest hno ob (show GLe g1 (g'.wP g1.P) from ⟨lg.F, lg.ng, lg.adr⟩)
        refine h1 (g'.wP g1.P) H' ⟨⟨lg.F, lg.ng, lg.adr⟩, rfl, fun b hb => ?_⟩ kp.sk obr (.ref D) ⟨D, rfl, fD, npD, fun ⟨l, o, e, z⟩ => lD ?_, avs, kp.at_, kp.rep.mono wP_le⟩
        · have hbD : b ≠ D := fun z => npD (z ▸ hb)
          have q := kp.st.keep b (.inl hb)
          rw [upd_ne hbD, upd_ne hbD] at q
          exact q
        · cases l with
          | gl n => exact ⟨.gl n, o, e, z⟩
          | sl j =>
            have hl : s1.env.length = s0.env.length := by
              have h1 := o1.len
              have h2 := o'.len
              rw [wipe_length] at h2
              omega
            have e' : (match (restE s1.env s0.env vs)[j]? with | some (.own o) => some o | _ => none) = some o := e
            rw [restE_get _ _ hl] at e'
            by_cases hj : j ∈ vs
            · rw [if_pos hj] at e'
              split at e'
              · rename_i w q
                have := List.all_eq_true.mp hno j hj
                rw [q] at this
                cases this
              · cases e'
            · rw [if_neg hj] at e'
              exact ⟨.sl j, o, e', z⟩
    · exact h1.elim
  · exact h1.elim
variable {elt tg iter tg1 iter1 : Expr} {ifs ifs1 : List Expr} {scope : Scope} {own : List (Str × Nat)} {pos : Pos} {it it1 : S → Res (List D)} {gt gt1 : TG} {vs1 is is1 : List Nat} {t t1 : D → S → Option S} {mc mc1 : S → Res Bool} {me : M}
theorem me_comp2 (hc : X.calm = true) (hN : X.N.Nodup) (hi : MIt X W tg iter it) (ok : BlkOk X.N X.env.scope scope own) (hv : ∀ i ∈ vs1, i ∈ own.map (·.2)) (hgk : MGk X.K gt is t) (hsub : ∀ i ∈ is, i ∈ own.map (·.2)) (hgk1 : MGk X.K gt1 is1 t1) (hsub1 : ∀ i ∈ is1, i ∈ vs1)
    (hg : Blk X scope fun Y => PG Y tg gt) (ht : Blk X scope fun Y => MTs Y W0 ifs mc) (hi1 : Blk X scope fun Y => MIt Y W0 tg1 iter1 it1) (hg1 : Blk X scope fun Y => PG Y tg1 gt1) (ht1 : Blk X scope fun Y => MTs Y W0 ifs1 mc1) (he : Blk X scope fun Y => ME Y W0 elt me)
    (hs : ∀ x, foldedSetIterable iter X.env x = pure x := by intro _; rfl) (hs1 : ∀ env x, foldedSetIterable iter1 env x = pure x := by intro _ _; rfl) :
    ME X W (.ListComp elt [⟨tg, iter, ifs, 0⟩, ⟨tg1, iter1, ifs1, 0⟩] scope pos) (mComp2 (own.map (·.2)) vs1 it t mc it1 t1 mc1 me) := by
  have z := pe_lc2 (pos := pos) (tt := tMT X.K W0 mc) (tt1 := tMT X.K W0 mc1) (wi1 := tMI X.K W0 it1) (te := tM X.K W0 me) hc hN hi ok hv (fun s H C cl fp => hg s H C cl fp) (fun s H C cl fp => ht s H C cl fp) (fun s H C cl fp => hi1 s H C cl fp) (fun s H C cl fp => hg1 s H C cl fp) (fun s H C cl fp => ht1 s H C cl fp) (fun s H C cl fp => he s H C cl fp) hs hs1
  refine pe_imp z fun σ H Q h => ?_
  obtain ⟨g, s, o, h⟩ := h
  exact tLc2_of hgk hsub hgk1 hsub1 hv o h
theorem ms_setComp2 {i : Nat} {y : Str} {py spos : Pos} (hc : X.calm = true) (hN : X.N.Nodup) (hi : MIt X W tg iter it) (ok : BlkOk X.N X.env.scope scope own) (hv : ∀ i ∈ vs1, i ∈ own.map (·.2)) (hgk : MGk X.K gt is t) (hsub : ∀ i ∈ is, i ∈ own.map (·.2)) (hgk1 : MGk X.K gt1 is1 t1) (hsub1 : ∀ i ∈ is1, i ∈ vs1)
    (hg : Blk X scope fun Y => PG Y tg gt) (ht : Blk X scope fun Y => MTs Y W0 ifs mc) (hi1 : Blk X scope fun Y => MIt Y W0 tg1 iter1 it1) (hg1 : Blk X scope fun Y => PG Y tg1 gt1) (ht1 : Blk X scope fun Y => MTs Y W0 ifs1 mc1) (he : Blk X scope fun Y => ME Y W0 elt me) (hy : X.N[i]? = some y := by rfl) (hyl : X.env.scope.names.lookup y = some .local := by rfl)
    (hsw : swapsWith (.ListComp elt [⟨tg, iter, ifs, 0⟩, ⟨tg1, iter1, ifs1, 0⟩] scope pos) (some (.Name y py)) spos.line X.env = pure true := by exact sw_true rfl rfl rfl (by decide +kernel))
    (hs : ∀ x, foldedSetIterable iter X.env x = pure x := by intro _; rfl) (hs1 : ∀ env x, foldedSetIterable iter1 env x = pure x := by intro _ _; rfl) :
    MS X W (.Assign [.Name y py] (.ListComp elt [⟨tg, iter, ifs, 0⟩, ⟨tg1, iter1, ifs1, 0⟩] scope pos) spos) (mSet i (mComp2 (own.map (·.2)) vs1 it t mc it1 t1 mc1 me)) := by
  have z := ps_setLc2 (tt := tMT X.K W0 mc) (tt1 := tMT X.K W0 mc1) (wi1 := tMI X.K W0 it1) (te := tM X.K W0 me) hc hN hy hyl hsw hi ok hv (fun s H C cl fp => hg s H C cl fp) (fun s H C cl fp => ht s H C cl fp) (fun s H C cl fp => hi1 s H C cl fp) (fun s H C cl fp => hg1 s H C cl fp) (fun s H C cl fp => ht1 s H C cl fp) (fun s H C cl fp => he s H C cl fp) hs hs1
  refine ps_imp z fun D σ H h => ?_
  obtain ⟨g, s, o, h⟩ := h
  refine tLc2_of hgk hsub hgk1 hsub1 hv o ((PostS.bind h).mono fun r g1 s1 H1 t1 k1 o1 h1 v rv => ?_)
  show D.nx (σ.set i (some v)) H1
  split at h1
  · rename_i s2 e2
    obtain ⟨g2, t2, o2⟩ := assign_ok o1 rv e2
    exact h1 _ g2 H1 t2 o2
  · exact h1.elim
end
end MI
/-! # xs.extend(ys), ys a list that is shared -/
namespace MI
open PySem PySem.Spec PyProof.Rows L2
def itemsD (s : S) : D → Option (List D)
  | .lst ys => some ys
  | .tup ys => some ys
  | .ref n => match s.gl[n]? with
    | some (.lst ys) => some ys
    | _ => none
  | _ => none
def mExtX (o a : M) : M := fun s => (o s).bind fun r s1 => match locOf r with
  | some l => (match cellOf s1 l with
    | some (.lst _) => (mLeak a s1).bind fun d s2 => (match cellOf s2 l, itemsD s2 d with
      | some (.lst xs), some ys => if xs.length + ys.length ≤ sizeLine then .ok (.d .non) (setCell s2 l (.lst (xs ++ ys))) else .stuck
      | _, _ => .stuck)
    | _ => .stuck)
  | none => .stuck
section
variable {X : Cx} {W : WX} {o a : Expr} {mo ma : M} {apos cpos : Pos}
theorem me_extX (ho : ME X W o mo) (ha : ME X W a ma) (hbase : attributeBase o "extend" X.env (eval o X.env) = eval o X.env := by rfl)
    (hfew : ((backTo cpos (starEach [a] X.env)).all (fun x => !x.1) && (backToKw cpos (keywordEach [] X.env)).all (fun x => x.1.isSome)
      && decide ([a].length + ([] : List Keyword).length + (if ([] : List Keyword).isEmpty then 0 else 1) < 30)) = true := by rfl)
    (hline : (apos.endLine == cpos.line) = true := by rfl) (hs : starEach [a] X.env = (false, eval a X.env) :: starEach [] X.env := by rfl) :
    ME X W (.Call (.Attribute o "extend" apos) [a] [] cpos) (mExtX mo ma) := by
  have z := pe_bm PySem.F.plainAttrs_list PySem.F.slot_list_extend PySem.F.type_list_extend mt_extendA ho (pa_cons ha pa_nil hs) hbase hfew hline hs
  refine pe_imp z fun σ H Q h => ?_
  obtain ⟨g, s, ok, h⟩ := h
  refine ⟨g, s, ok, (PostE.bind h).mono fun rv g1 s1 H1 t1 k1 o1 h1 v rr => ?_⟩
  split at h1
  · rename_i l e1
    have hv := locOf_ok rr e1
    subst hv
    split at h1
    · rename_i zs e2
      obtain ⟨us, hu, _⟩ := cell_lst o1 e2
      refine ⟨.inl ⟨rfl, us, .of hu⟩, ?_⟩
      refine tM_leak o1 (PostE.bind h1) fun d g2 s2 H2 y t2 k2 o2 ry h2 => ?_
      have el := loc_held o1 e2 t2 k2
      split at h2
      · rename_i xs ys e3 e4
        split at h2
        · rename_i hz
          obtain ⟨vs, hvs, rvs⟩ := cell_lst o2 e3
          rw [← el]
          have fin : ∀ ws, RepL X.K g2 ws (xs ++ ys) → Q .non (upd H2 (g2.adr l) (.lst ws)) := fun ws rw' => kE_change (o' := .lst (xs ++ ys)) o2 e3 ⟨ws, upd_same, rw'⟩ .non h2
          cases d with
          | lst zs =>
            cases e4
            cases ry with
            | @lst b us _ hb rz => exact .inl ⟨_, b, vs, us, rfl, rfl, hvs, o2.sub _ _ hb, by rw [rvs.length, rz.length]; exact hz, fin _ (rvs.append rz)⟩
          | tup zs =>
            cases e4
            cases ry with
            | @tup b us _ hb rz => exact .inr ⟨_, b, vs, us, rfl, rfl, hvs, sqT_mono o2.sub hb, by rw [rvs.length, rz.length]; exact hz, fin _ (rvs.append rz)⟩
          | ref n =>
            unfold itemsD at e4
            simp only at e4
            split at e4
            · rename_i zs e5
              cases e4
              obtain ⟨us, hus, rus⟩ := cell_lst o2 (l := .gl n) e5
              cases ry
              exact .inl ⟨_, _, vs, us, rfl, rfl, hvs, hus, by rw [rvs.length, rus.length]; exact hz, fin _ (rvs.append rus)⟩
            · cases e4
          | _ => cases e4
        · exact h2.elim
      · exact h2.elim
    · exact h1.elim
  · exact h1.elim
end
theorem ap_ExtX {o a : M} {s : S} : mExtX o a s = (o s).bind fun r s1 => match locOf r with
  | some l => (match cellOf s1 l with
    | some (.lst _) => (mLeak a s1).bind fun d s2 => (match cellOf s2 l, itemsD s2 d with
      | some (.lst xs), some ys => if xs.length + ys.length ≤ sizeLine then .ok (.d .non) (setCell s2 l (.lst (xs ++ ys))) else .stuck
      | _, _ => .stuck)
    | _ => .stuck)
  | none => .stuck := rfl
end MI
/-! # Comprehensions out of which an exception may go -/
namespace PySem
namespace HandSPX
section
variable {M : Model} {A : Around} {E : Value → Shared → Prop} {s : Shared} {Z : Obj → Prop} {base : Heap} {env : Env} {outer l : List Env} {L e : Addr}
/-- held by another frame: noted by this one -/
theorem looks_otherZ {L' : Addr} {Q : Unit → Shared → Prop} (hZ : Steady Z) (hfr : A.frames = some (env :: outer)) (hf : env.frame = some L) (hne : L' ≠ L) (hfl : HeldZ base (env :: outer) e Z L' s.heap)
    (hQ : ∀ h', HeldZ base (env :: outer) e Z L h' → s.heap.UpToSlots h' → Q () { s with heap := h' }) : wpAny M A (noteFrame (.ref e) env) Q E s := by
  obtain ⟨hkb, hen, hl, oe, vs, T, oT, ts, he, hz, hd, h1, hnT, hTe, hT, hdT, h3⟩ := hfl
  have hne' : (rawInt L' == rawInt L) = false := by
    refine beq_false_of_ne fun z => hne ?_
    unfold rawInt at z
    injection z with z _
    exact Int.ofNat.inj z
  unfold noteFrame
  simp only [hf]
  refine wpAny_bind (wpAny_field he hd h1 ?_)
  rw [if_pos (show (Value.ref T != Value.none) = true from by simp)]
  refine wpAny_bind (wpAny_field hT hdT h3 ?_)
  rw [if_neg (show ¬ ((rawInt L' == rawInt L) = true) from by rw [hne']; decide)]
  refine wpAny_bind (wpAny_setField hT hdT (Array.getElem?_eq_some_iff.mp h3).1 ?_)
  have other : ∀ b, b ≠ T → (s.heap.update T (Obj.mapFields (·.setIfInBounds 3 Value.none))).get? b = s.heap.get? b := fun b hb => Heap.get?_update_other _ _ (Ne.symm hb)
  have noRecord : ∀ b o, s.heap.get? b = some o → (∀ vs, o.data ≠ .fields vs) → b ≠ T := fun b o hb hnf q => by
    rw [q, hT] at hb; injection hb with hb; subst hb; exact hnf ts hdT
  refine wpAny_entryZ hZ hfr (hl.of_keeps fun b o hb hnf => ⟨o, (other b (noRecord b o hb hnf)).trans hb, rfl⟩) hf ((other e (Ne.symm hTe)).trans he)
    (fun b o hbo => (other b fun q => by rw [q, hnT] at hbo; cases hbo).trans (hkb b o hbo)) hen hd (Array.getElem?_eq_some_iff.mp h1).1 hz fun h' hN => ?_
  obtain ⟨x1, x2, x3, x4⟩ := hN
  exact hQ h' ⟨x1, hen, x2, x3⟩ fun b o hb hnf => x4 b o ((other b (noRecord b o hb hnf)).trans hb) hnf
end
end HandSPX
end PySem

namespace L2
open PySem PySem.Spec PyProof.Rows
/-- a block's context that lets exceptions out -/
abbrev Cx.blx (X : Cx) (s : Shared) (H : Hp) (scope : Scope) (ce : Env) (fp : List Addr) (xe : Value → Shared → Prop) : Cx := (X.blk s H scope ce fp).wish xe
/-- a block's exception, noted in the frame of the def around -/
def XN (X : Cx) (s : Shared) (H : Hp) (scope : Scope) (ce : Env) (fp : List Addr) (W : WX) (u : Value) (s' : Shared) : Prop :=
  ∃ (a : Addr) (B : Heap) (sI : Shared) (pins : List (Addr × Obj)) (σ : St) (H' : Hp) (cls : Value) (d : Option Addr),
    u = .ref a ∧ Inv (X.blk s H scope ce fp) pins σ H' sI ∧ (∀ b o, sI.heap.get? b = some o → b ∉ frs X.stack → B.get? b = some o) ∧ sI.heap.UpToSlots s'.heap ∧
      HandSPX.HeldZ B X.stack a (Zc cls d) X.env.locals s'.heap ∧ H' a = none ∧ s'.os = sI.os ∧ AllBare s'.gens ∧ W cls d σ H'
section
variable {X : Cx} {s3 s' : Shared} {H3 : Hp} {scope : Scope} {ce : Env} {fp : List Addr} {xe : Value → Shared → Prop} {W : WX} {u : Value} {E₁ : Value → Shared → Prop}
theorem noted1 (hs : X.stack = X.env :: X.outer) (hf : X.env.frame = some X.env.locals) (hfr : X.A.frames = some X.stack) (hce : ce.frame = X.env.frame) (x : XE (X.blx s3 H3 scope ce fp xe) W u s') :
    wpAny (model X.prog X.w) X.A (noteFrame u ce) (fun _ s'' => XN X s3 H3 scope ce fp W u s'') E₁ s' := by
  obtain ⟨a, B, sI, pins, σ, H, cls, d, rfl, I, nb, up, sky, na, os, ag, w⟩ := x
  rw [noteFrame_env _ hce]
  have fin : ∀ h', HandSPX.HeldZ B X.stack a (Zc cls d) X.env.locals h' → s'.heap.UpToSlots h' → XN X s3 H3 scope ce fp W (.ref a) { s' with heap := h' } := fun h' hh up' =>
    ⟨a, B, sI, pins, σ, H, cls, d, rfl, I.unwish, nb, up.trans up', hh, na, os, ag, w⟩
  have sky' : Sky B X.stack a (Zc cls d) ce.locals s'.heap := sky
  rw [hs] at sky' fin hfr
  rcases sky' with ⟨hB, hn, hl, oe, vs, he, hz, hd, h1⟩ | fl | hd
  · exact HandSPX.look_newZ Zc.steady hfr hl hf he hB hn hd h1 hz fin
  · exact HandSPX.looks_onZ Zc.steady hfr hf fl fin
  · by_cases hL : ce.locals = X.env.locals
    · rw [hL] at hd
      exact HandSPX.againZ hf hd.2.2.2 (fin s'.heap hd (Heap.UpToSlots.refl _))
    · exact HandSPX.looks_otherZ Zc.steady hfr hf hL hd fin
theorem noted2 (hf : X.env.frame = some X.env.locals) (hce : ce.frame = X.env.frame) (x : XN X s3 H3 scope ce fp W u s') :
    wpAny (model X.prog X.w) X.A (noteFrame u ce) (fun _ s'' => XN X s3 H3 scope ce fp W u s'') E₁ s' := by
  have x' := x
  obtain ⟨a, B, sI, pins, σ, H, cls, d, rfl, I, nb, up, hh, na, os, ag, w⟩ := x
  exact HandSPX.againZ (hce.trans hf) hh.2.2.2 x'
theorem cameBack (hf : X.env.frame = some X.env.locals) (hce : ce.frame = X.env.frame) (x : XN X s3 H3 scope ce fp W u s') {E : Value → Shared → Prop} (hE : ∀ s'', XN X s3 H3 scope ce fp W u s'' → E u s'') :
    cameBackBy (model X.prog X.w) X.A ce E u s' := by
  obtain ⟨a, B, sI, pins, σ, H, cls, d, rfl, I, nb, up, hh, na, os, ag, w⟩ := x
  obtain ⟨_, _, _, oe, vs, T, oT, ts, he, hz, hd, h1, hnT, hTe, hT, hdT, h3⟩ := id hh
  unfold cameBackBy
  refine wpAny_bind (wpAny_field he hd h1 ?_)
  rw [if_neg (show ¬ ((Value.ref T == Value.none) = true) from by simp)]
  rw [hce, hf]
  exact HandSPX.setFlight_onZ hh fun h₃ hh3 k3 => hE _ ⟨a, B, sI, pins, σ, H, cls, d, rfl, I, nb, up.trans k3, hh3, na, os, ag, w⟩
/-- out of the comprehension: the block is let go -/
theorem XN.fails {pins0 : List (Addr × Obj)} {σ0 : St} {W' : WX} (I3 : Inv X pins0 σ0 H3 s3) (f3 : ∀ b ∈ fp, FpOk X pins0 H3 b) (hL : ce.locals = s3.heap.objs.size) (hf : X.env.frame = some X.env.locals) (hce : ce.frame = X.env.frame)
    (tk : Takes X W') (hW : ∀ cls d σ H, W cls d σ H → W' cls d σ0 H) (x : XN X s3 H3 scope ce fp W u s') : CompFails (model X.prog X.w) X.A X.xe ce u s' := by
  obtain ⟨a, B, sI, pins, σ, H, cls, d, rfl, I, nb, up, hh, na, os, ag, w⟩ := x
  obtain ⟨m, hn, _⟩ := id I.loc
  have hn : sI.heap.Ns ce.locals m := hn
  have hn' : s'.heap.Ns ce.locals m := hn.upToSlots up
  refine ⟨m, hn', fun h₂ m₂ hn₂ hs₂ => ?_⟩
  have hC0 : H ce.locals = none := I.free
  obtain ⟨b1, b0, f1, oe, vs, T, oT, ts, he, hz, hd, h1, hnT, hTe, hT, hdT, h3⟩ := hh
  have sub : ∀ (h : Heap) b o, (PySem.W.hideAll h [ce.locals]).get? b = some o → h.get? b = some o ∧ b ≠ ce.locals := fun h b o e => by
    refine ⟨PySem.W.of_hideAll _ e, fun z => ?_⟩
    rw [z, PySem.W.hideAll_none _ List.mem_cons_self] at e
    cases e
  have get : ∀ (h : Heap) b o, h.get? b = some o → b ≠ ce.locals → (PySem.W.hideAll h [ce.locals]).get? b = some o := fun h b o e n => PySem.W.hideAll_get _ e (by simpa using n)
  have non : ∀ b, B.get? b = none → (PySem.W.hideAll B [ce.locals]).get? b = none := fun b e => by
    cases q : (PySem.W.hideAll B [ce.locals]).get? b with
    | none => rfl
    | some o => rw [(sub B b o q).1] at e; cases e
  have b2 : (PySem.W.hideAll B [ce.locals]).StaysIn h₂ := fun b o hb => (hs₂.2 b (sub B b o hb).2).trans (b1 b o (sub B b o hb).1)
  have f2 : h₂.FunFrames (PySem.W.hideAll B [ce.locals]) X.stack := Heap.FunFrames.sameBut hs₂ hn₂ (funFrames_none f1 fun L hL => non L (f1.mem hL).1)
  have nC : ∀ b o vs, s'.heap.get? b = some o → o.data = .fields vs → b ≠ ce.locals := fun b o vs e e2 z => by
    obtain ⟨oL, es, ep, hoL, hdL, r⟩ := hn'
    rw [z, hoL] at e
    cases e
    rw [hdL] at e2
    cases e2
  have he2 := (hs₂.2 a (nC a oe vs he hd)).trans he
  have t2 : HandSPX.TracedZ h₂ (PySem.W.hideAll B [ce.locals]) a (Zc cls d) (rawInt X.env.locals) := ⟨oe, vs, T, oT, ts, he2, hz, hd, h1, non T hnT, hTe, (hs₂.2 T (nC T oT ts hT hdT)).trans hT, hdT, h3⟩
  unfold PySem.passOn
  refine wpAny_bind (wpAny_field he2 hd h1 ?_)
  rw [if_neg (show ¬ ((Value.ref T == Value.none) = true) from by simp)]
  rw [hce, hf]
  refine wpAny_bind (HandSPX.setFlight_onZ ⟨b2, non a b0, f2, t2⟩ fun h₃ hh3 k3 => ?_)
  have base : Un (frs X.stack) fp H3 H s3.heap sI.heap := I.base
  have lt : ∀ b o, s3.heap.get? b = some o → b ≠ ce.locals := fun b o e z => Nat.lt_irrefl _ (by rw [z, hL] at e; exact Heap.lt_size e)
  have J : Inv X pins0 σ0 H { sI with heap := PySem.W.hideAll sI.heap [ce.locals] } := I3.call' (ch := fp) I.os
    ⟨fun b o e n hb hx => get _ b _ (base.keep b o e n hb hx) (lt b o e), fun b o e n hb hx => by
        obtain ⟨sl, q⟩ := base.slot b o e n hb hx
        exact ⟨sl, get _ b _ q (lt b o e)⟩, base.free, fun b o e hx => by
        obtain ⟨o', q⟩ := base.there b o e hx
        exact ⟨o', get _ b _ q (lt b o e)⟩, base.tups, base.frzs, base.tbls⟩
    (fun b o q => (I.hok b o q).stay (fun c v hc r => get _ c _ r fun z => by
        rcases hc with hc | hc
        · rw [← hc, z, hC0] at q; cases q
        · rw [z, hC0] at hc; cases hc) (fun _ r => r) fun _ _ r => r)
    I.bare fun b hb => ⟨(f3 b hb).2.2.2.1, (f3 b hb).2.1, (f3 b hb).2.2.2.2.1, (f3 b hb).2.2.2.2.2⟩
  refine wpAny_throw (tk _ _ ⟨a, PySem.W.hideAll B [ce.locals], { sI with heap := PySem.W.hideAll sI.heap [ce.locals] }, pins0, σ0, H, cls, d, rfl, J, fun b o e hb => ?_, fun b o e hnf => ?_, .inr (.inr hh3), na, os, ag, hW _ _ _ _ w⟩)
  · obtain ⟨e1, e2⟩ := sub _ b o e
    exact get _ b o (nb b o e1 hb) e2
  · obtain ⟨e1, e2⟩ := sub _ b o e
    obtain ⟨sl, q⟩ := up b o e1 hnf
    exact k3 b _ ((hs₂.2 b e2).trans q) hnf |>.imp fun sl' z => z
end
end L2
/-! # List comprehensions over two, out of which an exception may go -/
namespace L2
open PySem PySem.Spec PyProof.Rows
section
variable {prog : Program} {w : World} {A : Around} {R : Result → Shared → Prop} {s : Shared} {elt t0 i0 t1 i1 : Expr} {ifs0 ifs1 : List Expr} {scope : Scope} {pos : Pos} {it acc : Value} {env : Env}
/-- the loop of the first clause; an exception of the inner one goes on -/
theorem loopX_out (hs : ∀ x, foldedSetIterable i1 env x = pure x) (I : Nat → Shared → Prop)
    (turn : ∀ n s, I n s → wpAny (model prog w) A (pyNext it) (fun r s₁ => match r with
      | none => R (.ok .next) s₁
      | some v => wpAny (model prog w) A (letOwnedTupleGo t0 it v) (fun _ s₁' => wpAny (model prog w) A (assign t0 env v) (fun _ s₂ =>
          wpAny (model prog w) A (forIn ifs0 true fun c r => if r = true then do let ok ← isTrue c env (eval c env); pure (ForInStep.yield ok) else pure (ForInStep.yield r)) (fun ok s₃ =>
            if ok = true then wpAny (model prog w) A (eval i1 env) (fun x s₄ => wpAny (model prog w) A (pyIter x) (fun it1 s₅ =>
              codeAny (model prog w) A (.compStart (.ListComp elt [⟨t0, i0, ifs0, 0⟩, ⟨t1, i1, ifs1, 0⟩] scope pos) 1 it1 acc env) (fun r s' => match r with
                | .ok _ => ∃ m, m < n ∧ I m s'
                | .error e => cameBackBy (model prog w) A env (notedBy (model prog w) A env fun e s' => R (.error e) s') e s') s₅) (notedBy (model prog w) A env fun e s' => R (.error e) s') s₄) (notedBy (model prog w) A env fun e s' => R (.error e) s') s₃
            else ∃ m, m < n ∧ I m s₃) (notedBy (model prog w) A env fun e s' => R (.error e) s') s₂) (notedBy (model prog w) A env fun e s' => R (.error e) s') s₁') (notedBy (model prog w) A env fun e s' => R (.error e) s') s₁) (notedBy (model prog w) A env fun e s' => R (.error e) s') s)
    (n : Nat) (h : I n s) :
    codeAny (model prog w) A (.compLoop (.ListComp elt [⟨t0, i0, ifs0, 0⟩, ⟨t1, i1, ifs1, 0⟩] scope pos) 0 it acc env) R s := by
  refine codeAny_loop rfl I (fun n s hI => ?_) n h
  show wpAny _ A ((compTurn (.ListComp elt [⟨t0, i0, ifs0, 0⟩, ⟨t1, i1, ifs1, 0⟩] scope pos) 0 it acc env).onRaise (fun x => do noteFrame x env; theTreesLotGoes x)) _ _ s
  refine wpAny_noted ?_
  rw [compTurn2_out]
  refine wpAny_bind (wpAny_standAt (wpAny_bind (wpAny_mono (turn n s hI) (fun r s₁ h₁ => ?_) fun _ _ h' => h')))
  cases r with
  | none => exact wpAny_pure h₁
  | some v =>
    refine wpAny_bind (wpAny_mono h₁ (fun _ s₁' h₁' => ?_) fun _ _ h' => h')
    refine wpAny_bind (wpAny_mono h₁' (fun _ s₂ h₂ => wpAny_bind (wpAny_mono h₂ (fun ok s₃ h₃ => ?_) fun _ _ h' => h')) fun _ _ h' => h')
    cases ok with
    | false => exact wpAny_pure ⟨rfl, h₃⟩
    | true =>
      refine wpAny_bind (wpAny_mono h₃ (fun x s₄ h₄ => ?_) fun _ _ h' => h')
      refine wpAny_bind (wpAny_standAt (wpAny_bind (wpAny_of_eq (hs x) (wpAny_bind (wpAny_holding (wpAny_mono h₄ (fun it1 s₅ h₅ => ?_) fun _ _ h' => h'))))))
      refine wpAny_bind (wpAny_runOwn ?_)
      rw [Around.mark_none]
      refine codeAny_mono h₅ fun r s' hr => ?_
      cases r with
      | ok f =>
        first
          | exact wpAny_pure ⟨rfl, hr⟩
          | exact wpAny_bind (wpAny_pure (wpAny_pure ⟨rfl, hr⟩))
      | error e => exact hr
end
/-- the wish of a block at the slots σ -/
abbrev WB (W : WX) (σ : St) : WX := fun cls d _ H => W cls d σ H
/-- in each block of X that lets exceptions out -/
abbrev BlkX (X : Cx) (scope : Scope) (P : Cx → WX → Prop) : Prop := ∀ (W : WX) (xe : Value → Shared → Prop) (s : Shared) (H : Hp) (C : Addr) (cl : List (Str × Addr)) (fp : List Addr),
  Takes (X.blx s H scope (PySem.compEnvC scope cl C X.env) fp xe) W → P (X.blx s H scope (PySem.compEnvC scope cl C X.env) fp xe) W
section
variable {X : Cx}
theorem lcX_core {W : WX} {pins : List (Addr × Obj)} {s : Shared} {σ : St} {H : Hp} {Q : VK} {elt tg iter tg1 iter1 : Expr} {ifs ifs1 : List Expr} {scope : Scope} {own : List (Str × Nat)} {vs1 : List Nat} {pos pos' : Pos} {wi : TI} {wi1 : WX → TI} {g g1 : TG} {tt tt1 : WX → TT} {te : WX → TE} {use : Option (Value → Sem Unit)} {Qf : Value → Shared → Prop}
    (hc : X.calm = true) (hN : X.N.Nodup) (I : Inv X pins σ H s) (hst : X.stack = X.env :: X.outer) (hf : X.env.frame = some X.env.locals) (tk : Takes X W) (hi : PI X tg iter wi) (ok : BlkOk X.N X.env.scope scope own) (hv : ∀ i ∈ vs1, i ∈ own.map (·.2))
    (hg : BlkX X scope fun Y _ => PG Y tg g) (ht : BlkX X scope fun Y W' => PTs Y ifs (tt W')) (he : BlkX X scope fun Y W' => PE Y elt (te W')) (hs : ∀ x, foldedSetIterable iter X.env x = pure x)
    (hi1 : BlkX X scope fun Y W' => PI Y tg1 iter1 (wi1 W')) (hg1 : BlkX X scope fun Y _ => PG Y tg1 g1) (ht1 : BlkX X scope fun Y W' => PTs Y ifs1 (tt1 W')) (hs1 : ∀ env x, foldedSetIterable iter1 env x = pure x)
    (h : tLc2 wi g (tt (WB W σ)) (wi1 (WB W σ)) g1 (tt1 (WB W σ)) (te (WB W σ)) (own.map (·.2)) vs1 σ H Q)
    (hRR : ∀ D (ce : Env) s' m H', Inv X pins σ H' s' → Q (.ref D) H' → s'.heap.Ns ce.locals m → FpOk X pins H' ce.locals → compEnds (model X.prog X.w) X.A X.xe use Qf (.ref D) ce (.ok .next) s') :
    wpAny (model X.prog X.w) X.A (comprehension (.ListComp elt [⟨tg, iter, ifs, 0⟩, ⟨tg1, iter1, ifs1, 0⟩] scope pos) scope X.env pos' (newList []) false (eval iter X.env) use) Qf X.xe s := by
  have hfree : ∀ y ∈ scope.names, y.2 = .free → ∃ c, X.env.cells.lookup y.1 = some c := fun y hy e => by
    rcases ok.free y hy e with k | k
    · exact I.ok.has _ (.inl k)
    · exact I.ok.has _ (.inr k)
  refine comprehension_at (use := use) rfl hs (closure_ok hfree) ok.kind (fun y hy e => by rw [ok.uniq y hy, e])
    (thn (hi.run pins s σ H _ I h) fun xv s1 hx => thn hx fun itv s2 h2 => ?_)
  obtain ⟨it, fp, tn, J, H2, e, I2, T, st2, f2, q⟩ := h2
  subst e
  refine wpAny_newObj_type (newEnv_comp ?_) (by show 0 ≤ sizeLine; decide)
  generalize hD : s2.heap.objs.size = D
  have hDn : H2 D = none := I2.hok.fresh (Nat.le_of_eq hD)
  obtain ⟨Wf, ⟨m0, w0⟩, turn⟩ := q D hDn
  -- the new list
  generalize hs3 : ({ s2 with heap := s2.heap.push { cls := .type "list", data := .seq ([] : List Value).toArray } } : Shared) = s3
  have I3 : Inv X pins σ (upd H2 D (.lst [])) s3 := by
    rw [← hs3]
    refine I2.laid (t' := s2.toks) (fun b o e => Heap.get?_push_of_some _ e) (Nat.le_of_eq hD) ⟨Nat.zero_le _, [], 0, .nil, ?_⟩
    rw [← hD]
    exact Heap.get?_push_size _ rfl
  have h3 : s3.heap = s2.heap.push { cls := .type "list", data := .seq ([] : List Value).toArray } := by rw [← hs3]
  have sz : ∀ b ∈ fp, b < s2.heap.objs.size := fun b hb => by
    obtain ⟨o, e, _⟩ := T.obj _ _ st2 b hb
    exact Heap.lt_size e
  have f3 : ∀ b ∈ fp, FpOk X pins (upd H2 D (.lst [])) b ∧ b < s3.heap.objs.size := fun b hb => by
    have hlt := sz b hb
    refine ⟨⟨?_, (f2 b hb).2⟩, by rw [h3, Heap.size_push]; exact Nat.lt_succ_of_lt hlt⟩
    rw [upd_ne (by rw [← hD]; exact Nat.ne_of_lt hlt)]
    exact (f2 b hb).1
  have st3 : tn 0 s3.heap := T.keep _ _ _ st2 fun b _ o e => by rw [h3]; exact Heap.get?_push_of_some _ e
  have I4 := block_start I3 ok hN f3
  have nfp : ∀ b ∈ fp, (upd H2 D (.lst [])) b = none := fun b hb => (f3 b hb).1.1
  -- what a block lets out is taken
  generalize hce : compEnvC scope (cellsFrom (s3.heap.objs.size + 1) scope.names (cloFrom X.env.cells scope.names [])) s3.heap.objs.size X.env = ce
  have cL : ce.locals = s3.heap.objs.size := by subst hce; rfl
  have cF : ce.frame = X.env.frame := by subst hce; rfl
  generalize hH3 : upd H2 D (.lst []) = H3 at I3 I4 w0 nfp f3
  have fail : ∀ {u : Value} {s' : Shared}, XN X s3 H3 scope ce fp (WB W σ) u s' → CompFails (model X.prog X.w) X.A X.xe ce u s' := fun {u s'} x =>
    x.fails I3 (fun b hb => (f3 b hb).1) cL hf cF tk fun cls d _ H w => w
  obtain ⟨x1, hx1⟩ : ∃ x1 : Value → Shared → Prop, x1 = notedBy (model X.prog X.w) X.A ce (fun e s' => compEnds (model X.prog X.w) X.A X.xe use Qf (.ref D) ce (.error e) s') := ⟨_, rfl⟩
  obtain ⟨x2, hx2⟩ : ∃ x2 : Value → Shared → Prop, x2 = notedBy (model X.prog X.w) X.A ce (fun e s' => cameBackBy (model X.prog X.w) X.A ce x1 e s') := ⟨_, rfl⟩
  have n1 : ∀ {u : Value} {s' : Shared}, XN X s3 H3 scope ce fp (WB W σ) u s' → x1 u s' := fun {u s'} x => by
    rw [hx1]
    exact wpAny_mono (noted2 hf cF x) (fun _ _ x' => fail x') fun _ _ e => e
  have tk1 : Takes (X.blx s3 H3 scope ce fp x1) (WB W σ) := fun u s' x => by
    show x1 u s'
    rw [hx1]
    exact wpAny_mono (noted1 hst hf I.ok.frames cF x) (fun _ _ x' => fail x') fun _ _ e => e
  have tk2 : Takes (X.blx s3 H3 scope ce fp x2) (WB W σ) := fun u s' x => by
    show x2 u s'
    rw [hx2]
    exact wpAny_mono (noted1 hst hf I.ok.frames cF x) (fun _ _ x' => cameBack hf cF x' fun _ y => n1 y) fun _ _ e => e
  have pg : PG (X.blx s3 H3 scope ce fp x1) tg g := by subst hce; exact hg _ x1 s3 H3 _ _ fp tk1
  have pt : PTs (X.blx s3 H3 scope ce fp x1) ifs (tt (WB W σ)) := by subst hce; exact ht _ x1 s3 H3 _ _ fp tk1
  have pi1 : PI (X.blx s3 H3 scope ce fp x1) tg1 iter1 (wi1 (WB W σ)) := by subst hce; exact hi1 _ x1 s3 H3 _ _ fp tk1
  have pe : PE (X.blx s3 H3 scope ce fp x2) elt (te (WB W σ)) := by subst hce; exact he _ x2 s3 H3 _ _ fp tk2
  have pg1 : PG (X.blx s3 H3 scope ce fp x2) tg1 g1 := by subst hce; exact hg1 _ x2 s3 H3 _ _ fp tk2
  have pt1 : PTs (X.blx s3 H3 scope ce fp x2) ifs1 (tt1 (WB W σ)) := by subst hce; exact ht1 _ x2 s3 H3 _ _ fp tk2
  rw [hce] at I4
  have I4 : Inv (X.blx s3 H3 scope ce fp x1) [] (wipe σ (own.map (·.2))) H3 _ := I4.wish x1
  show codeAny _ _ (.compStart (.ListComp elt [⟨tg, iter, ifs, 0⟩, ⟨tg1, iter1, ifs1, 0⟩] scope pos) 0 (.ref it) (.ref D) (compEnvC scope (cellsFrom (s3.heap.objs.size + 1) scope.names (cloFrom X.env.cells scope.names [])) s3.heap.objs.size X.env)) (compEnds (model X.prog X.w) X.A X.xe use Qf (.ref D) (compEnvC scope (cellsFrom (s3.heap.objs.size + 1) scope.names (cloFrom X.env.cells scope.names [])) s3.heap.objs.size X.env)) { s3 with heap := pushCells (s3.heap.push { cls := .type "dict", data := .dict #[] }) scope.names }
  rw [hce]
  generalize hs4 : ({ s3 with heap := pushCells (s3.heap.push { cls := .type "dict", data := .dict #[] }) scope.names } : Shared) = s4 at I4 ⊢
  have st4 : tn 0 s4.heap := T.keep _ _ _ st3 fun b _ o e => by rw [← hs4]; exact pushCells_keeps _ _ _ _ (Heap.get?_push_of_some _ e)
  have stat : ∀ {σ' : St} {H' : Hp} {s' : Shared}, Inv (X.blx s3 H3 scope ce fp x1) [] σ' H' s' → (∀ b ∈ fp, H' b = none) → ∀ b ∈ fp, FpOk (X.blx s3 H3 scope ce fp x1) [] H' b := fun {σ' H' s'} I' hn b hb =>
    ⟨hn b hb, (I'.ok.exf b hb).1, I'.ok.exfs b hb, .inl hb, fun x c e => (I'.ok.exf b hb).2 x c e, fun p hp => absurd (show p ∈ ([] : List (Addr × Obj)) ++ [] from hp) (by simp)⟩
  have loop : codeAny (model X.prog X.w) X.A (.compLoop (.ListComp elt [⟨tg, iter, ifs, 0⟩, ⟨tg1, iter1, ifs1, 0⟩] scope pos) 0 (.ref it) (.ref D) ce) (compEnds (model X.prog X.w) X.A X.xe use Qf (.ref D) ce) s4 := by
    refine loopX_out (hs1 ce) (fun n s' => ∃ i H', Inv (X.blx s3 H3 scope ce fp x1) [] (wipe σ (own.map (·.2))) H' s' ∧ tn i s'.heap ∧ (∀ b ∈ fp, H' b = none) ∧ Wf i n H') ?_ m0 ⟨0, H3, I4, st4, nfp, w0⟩
    rw [← hx1]
    rintro n s5 ⟨i, H5, I5, st5, n5, w5⟩
    rcases turn i n H5 w5 with ⟨stop, qq⟩ | ⟨go, Nx, hNx, step⟩
    · have td := T.done (X.blx s3 H3 scope ce fp x1) rfl rfl rfl hc i [] s5 _ H5 (fun _ _ => False) I5 (stat I5 n5) st5 stop
      refine thnF td fun r s6 ⟨hr, I6⟩ => ?_
      subst hr
      -- back in the def's context
      have I7 : Inv X pins σ H5 s6 := I3.call' (ch := fp) I6.os I6.base I6.hok I6.bare fun b hb => ⟨(f3 b hb).1.2.2.2.1, (f3 b hb).1.2.1, (f3 b hb).1.2.2.2.2.1, (f3 b hb).1.2.2.2.2.2⟩
      have nC : H5 ce.locals = none := I6.free
      obtain ⟨m, hn, _⟩ := I6.loc
      have hn : s6.heap.Ns ce.locals m := hn
      exact hRR D ce s6 m H5 I7 qq hn (by rw [cL] at nC ⊢; exact I3.fpOk (Nat.le_refl _) nC)
    · have ti := T.item (X.blx s3 H3 scope ce fp x1) rfl rfl rfl hc i [] s5 _ H5 (fun _ _ => False) I5 (stat I5 n5) st5 go
      refine thnF ti fun r s6 ⟨u, hr, h6⟩ => ?_
      subst hr
      refine thnF h6 fun _ s7 ⟨x, H7, I7, r7, y7, st7, n7⟩ => ?_
      have I7' := I7.pinned (stat I7 n7) (T.obj _ _ st7)
      refine thn (pg.run _ s7 _ H7 x u _ I7' r7 (step x H7 y7)) fun _ s8 ⟨σ8, H8, I8, hw8, q8⟩ => ?_
      refine thn (pt.run _ s8 σ8 H8 _ I8 q8) fun b s9 ⟨H9, I9, q9⟩ => ?_
      -- the turn's end, from any slots that know what the block knew at its start
      have fin : ∀ {σ9 : St} {s' : Shared} {H' : Hp}, Inv (X.blx s3 H3 scope ce fp x1) ([] ++ pinsAt fp s7.heap) σ9 H' s' → (wipe σ (own.map (·.2))).length = σ9.length → (∀ (j : Nat) v, (wipe σ (own.map (·.2)))[j]? = some (some v) → σ9[j]? = some (some v)) → Nx H' →
          ∃ m, m < n ∧ ∃ i H', Inv (X.blx s3 H3 scope ce fp x1) [] (wipe σ (own.map (·.2))) H' s' ∧ tn i s'.heap ∧ (∀ b ∈ fp, H' b = none) ∧ Wf i m H' := fun {σ9 s' H'} I' hl hk nx => by
        obtain ⟨m', hm, w'⟩ := hNx H' nx
        have pin' : ∀ b ∈ fp, ∀ o, s7.heap.get? b = some o → s'.heap.get? b = some o ∧ H' b = none := fun b hb o e =>
          let z := I'.pin (b, o) (List.mem_append_right _ (List.mem_append_right _ (mem_pinsAt hb e)))
          ⟨z.1, z.2.1⟩
        refine ⟨m', hm, i + 1, H', (I'.unpinned (pins := [])).weak hl hk, T.keep _ _ _ st7 fun b hb o e => (pin' b hb o e).1, fun b hb => ?_, w'⟩
        obtain ⟨o, e, _⟩ := T.obj _ _ st7 b hb
        exact (pin' b hb o e).2
      have hl8 : (wipe σ (own.map (·.2))).length = σ8.length := by rw [← hw8, wipe_length]
      have hk8 : ∀ (j : Nat) v, (wipe σ (own.map (·.2)))[j]? = some (some v) → σ8[j]? = some (some v) := fun j v e => by
        rw [← hw8] at e
        exact (wipe_some e).1
      have hk9 : ∀ (j : Nat) v, (wipe σ (own.map (·.2)))[j]? = some (some v) → (wipe σ8 vs1)[j]? = some (some v) := fun j v e => by
        rw [← hw8] at e
        obtain ⟨e1, e2⟩ := wipe_some e
        rw [wipe_out fun z => e2 (hv j z)]
        exact e1
      cases b with
      | false =>
        simp only [Bool.false_eq_true, if_false] at q9 ⊢
        exact fin I9 hl8 hk8 q9
      | true =>
        simp only [if_true] at q9 ⊢
        refine thn (pi1.run _ s9 σ8 H9 _ I9 q9) fun xv s10 hx => thn hx fun itv s11 h11 => ?_
        obtain ⟨it1, fp1, tn1, J1, H11, e1, I11, T1, st11, f11, W1, ⟨m1, w1⟩, turn1⟩ := h11
        subst e1
        -- the inner loop
        have stat1 : ∀ {H' : Hp}, (∀ b ∈ fp1, H' b = none) → ∀ b ∈ fp1, FpOk (X.blx s3 H3 scope ce fp x2) ([] ++ pinsAt fp s7.heap) H' b := fun hn b hb => ⟨hn b hb, (f11 b hb).2⟩
        have I11' : Inv (X.blx s3 H3 scope ce fp x2) ([] ++ pinsAt fp s7.heap) σ8 H11 s11 := (I11.unwish).wish x2
        have loop1 : codeAny (model X.prog X.w) X.A (.compLoop (.ListComp elt [⟨tg, iter, ifs, 0⟩, ⟨tg1, iter1, ifs1, 0⟩] scope pos) 1 (.ref it1) (.ref D) ce)
            (fun r s' => match r with
              | .ok _ => ∃ m, m < n ∧ ∃ i H', Inv (X.blx s3 H3 scope ce fp x1) [] (wipe σ (own.map (·.2))) H' s' ∧ tn i s'.heap ∧ (∀ b ∈ fp, H' b = none) ∧ Wf i m H'
              | .error e => cameBackBy (model X.prog X.w) X.A ce x1 e s') s11 := by
          refine compLoop2_in (fun k s' => ∃ j H', Inv (X.blx s3 H3 scope ce fp x2) ([] ++ pinsAt fp s7.heap) (wipe σ8 vs1) H' s' ∧ tn1 j s'.heap ∧ (∀ b ∈ fp1, H' b = none) ∧ W1 j k H') ?_ m1 ⟨0, H11, I11'.weak (wipe_length _ _) (fun j v e => (wipe_some e).1), st11, fun b hb => (f11 b hb).1, w1⟩
          rw [← hx2]
          rintro k s12 ⟨j, H12, I12, st12, n12, w12⟩
          rcases turn1 j k H12 w12 with ⟨stop1, nx1⟩ | ⟨go1, Nx1, hNx1, step1⟩
          · refine thnF (T1.done (X.blx s3 H3 scope ce fp x2) rfl rfl rfl hc j _ s12 (wipe σ8 vs1) H12 (fun _ _ => False) I12 (stat1 n12) st12 stop1) fun r s13 ⟨hr, I13⟩ => ?_
            subst hr
            exact fin (I13.unwish.wish x1) (hl8.trans (wipe_length σ8 vs1).symm) hk9 nx1
          · refine thnF (T1.item (X.blx s3 H3 scope ce fp x2) rfl rfl rfl hc j _ s12 (wipe σ8 vs1) H12 (fun _ _ => False) I12 (stat1 n12) st12 go1) fun r s13 ⟨u1, hr, h13⟩ => ?_
            subst hr
            refine thnF h13 fun _ s14 ⟨x1v, H14, I14, r14, y14, st14, n14⟩ => ?_
            have I14' := I14.pinned (stat1 n14) (T1.obj _ _ st14)
            refine thn (pg1.run _ s14 (wipe σ8 vs1) H14 x1v u1 _ I14' r14 (step1 x1v H14 y14)) fun _ s15 ⟨σ15, H15, I15, hw15, q15⟩ => ?_
            refine thn (pt1.run _ s15 σ15 H15 _ I15 q15) fun b1 s16 ⟨H16, I16, q16⟩ => ?_
            have fin1 : ∀ {s' : Shared} {H' : Hp}, Inv (X.blx s3 H3 scope ce fp x2) (([] ++ pinsAt fp s7.heap) ++ pinsAt fp1 s14.heap) σ15 H' s' → Nx1 H' → ∃ m, m < k ∧ ∃ j H', Inv (X.blx s3 H3 scope ce fp x2) ([] ++ pinsAt fp s7.heap) (wipe σ8 vs1) H' s' ∧ tn1 j s'.heap ∧ (∀ b ∈ fp1, H' b = none) ∧ W1 j m H' := fun {s' H'} I' nx => by
              obtain ⟨m', hm, w'⟩ := hNx1 H' nx
              have pin' : ∀ b ∈ fp1, ∀ o, s14.heap.get? b = some o → s'.heap.get? b = some o ∧ H' b = none := fun b hb o e =>
                let z := I'.pin (b, o) (List.mem_append_right _ (List.mem_append_right _ (mem_pinsAt hb e)))
                ⟨z.1, z.2.1⟩
              refine ⟨m', hm, j + 1, H', I'.unpinned.weak (by rw [← hw15, wipe_length]) (fun j v e => by rw [← hw15] at e; exact (wipe_some e).1), T1.keep _ _ _ st14 fun b hb o e => (pin' b hb o e).1, fun b hb => ?_, w'⟩
              obtain ⟨o, e, _⟩ := T1.obj _ _ st14 b hb
              exact (pin' b hb o e).2
            cases b1 with
            | false =>
              simp only [Bool.false_eq_true, if_false] at q16 ⊢
              exact fin1 I16 q16
            | true =>
              simp only [if_true] at q16 ⊢
              refine thn (pe.run _ s16 σ15 H16 _ I16 q16) fun z s17 ⟨yv, H17, I17, r17, acc, hD17, hz17, nx⟩ => ?_
              exact app_ok (X := X.blx s3 H3 scope ce fp x2) I17 hD17 hz17 r17 fun s18 I18 => fin1 I18 nx
        exact compStart1_ok loop1 (T1.self X.A 0 _ _ _ st11 loop1)
  exact codeAny_compStart_list loop (T.self X.A 0 _ _ _ st4 loop)
/-- as a value -/
theorem pe_lcX {W : WX} {elt tg iter tg1 iter1 : Expr} {ifs ifs1 : List Expr} {scope : Scope} {own : List (Str × Nat)} {vs1 : List Nat} {pos : Pos} {wi : TI} {wi1 : WX → TI} {g g1 : TG} {tt tt1 : WX → TT} {te : WX → TE} (hc : X.calm = true) (hN : X.N.Nodup) (hst : X.stack = X.env :: X.outer) (hf : X.env.frame = some X.env.locals) (tk : Takes X W) (hi : PI X tg iter wi) (ok : BlkOk X.N X.env.scope scope own) (hv : ∀ i ∈ vs1, i ∈ own.map (·.2))
    (hg : BlkX X scope fun Y _ => PG Y tg g) (ht : BlkX X scope fun Y W' => PTs Y ifs (tt W')) (hi1 : BlkX X scope fun Y W' => PI Y tg1 iter1 (wi1 W')) (hg1 : BlkX X scope fun Y _ => PG Y tg1 g1) (ht1 : BlkX X scope fun Y W' => PTs Y ifs1 (tt1 W')) (he : BlkX X scope fun Y W' => PE Y elt (te W'))
    (hs : ∀ x, foldedSetIterable iter X.env x = pure x := by intro _; rfl) (hs1 : ∀ env x, foldedSetIterable iter1 env x = pure x := by intro _ _; rfl) :
    PE X (.ListComp elt [⟨tg, iter, ifs, 0⟩, ⟨tg1, iter1, ifs1, 0⟩] scope pos) (fun σ H Q => tLc2 wi g (tt (WB W σ)) (wi1 (WB W σ)) g1 (tt1 (WB W σ)) (te (WB W σ)) (own.map (·.2)) vs1 σ H Q) := by
  refine ⟨fun pins s σ H Q I h => ?_⟩
  rw [eval_ListComp]
  refine lcX_core hc hN I hst hf tk hi ok hv hg ht he hs hi1 hg1 ht1 hs1 h fun D ce s' m H' I' q hn f => ⟨m, hn, fun h'' sb => ?_⟩
  obtain ⟨f0, f1, f2, f3, f4, f5⟩ := f
  exact ⟨.ref D, H', I'.turned (t' := s'.toks) (fun b o hb e => (sb.2 b hb).trans e) f0 f1 f3 f4 f5, rfl, q⟩
end
end L2
/-! # Mirrors of comprehensions over two, out of which an exception may go -/
namespace MI
open PySem L2
def compGoX (vs : List Nat) (t : D → S → Option S) (c : S → Res Bool) (e : S → Res D) : List D → List D → S → Res (List D)
  | [], acc, s => .ok acc s
  | d :: ds, acc, s => match t d s with
    | none => .stuck
    | some s1 => (c s1).bind fun b s2 => if b = true then (e s2).bind fun y s3 => if acc.length < sizeLine then compGoX vs t c e ds (acc ++ [y]) (wipeS s3 vs) else .stuck
        else compGoX vs t c e ds acc (wipeS s2 vs)
def compGo2X (vs vs1 : List Nat) (t : D → S → Option S) (c : S → Res Bool) (it1 : S → Res (List D)) (t1 : D → S → Option S) (c1 : S → Res Bool) (e : S → Res D) : List D → List D → S → Res (List D)
  | [], acc, s => .ok acc s
  | d :: ds, acc, s => match t d s with
    | none => .stuck
    | some s1 => (c s1).bind fun b s2 => if b = true then (it1 s2).bind fun ds1 s3 => (compGoX vs1 t1 c1 e ds1 acc (wipeS s3 vs1)).bind fun acc1 s4 => compGo2X vs vs1 t c it1 t1 c1 e ds acc1 (wipeS s4 vs)
        else compGo2X vs vs1 t c it1 t1 c1 e ds acc (wipeS s2 vs)
def endX (vs : List Nat) (s1 : S) : Res (List D) → Res RV
  | .ok acc s2 => .ok (.new (.lst acc)) { s2 with env := restE s1.env s2.env vs }
  | .exc c p s2 => .exc c p { s2 with env := restE s1.env (wipeE s2.env vs) vs }
  | .stuck => .stuck
def mComp2X (vs vs1 : List Nat) (it : S → Res (List D)) (t : D → S → Option S) (c : S → Res Bool) (it1 : S → Res (List D)) (t1 : D → S → Option S) (c1 : S → Res Bool) (e : M) : M := fun s => (it s).bind fun ds s1 => if noOwn s1.env vs = true then endX vs s1 (compGo2X vs vs1 t c it1 t1 c1 (mLeak e) ds [] (wipeS s1 vs)) else .stuck
section
variable {K : PySem.W.Frag} {D : Addr} {g0 g : G} {H0 H : Hp} {acc : List MI.D} {avs : List V}
/-- the inner loop -/
theorem loop_inX {vs1 is1 : List Nat} {gt1 : TG} {t1 : MI.D → S → Option S} {mc1 : S → Res Bool} {me : M} {σ2 : St} {W' : WX} (hgt : MGk K gt1 is1 t1) (hsub : ∀ i ∈ is1, i ∈ vs1) {J1 : It} {ds1 : List MI.D} {gA : G} (hJ : Walk K J1 ds1 gA)
    {acc0 : List MI.D} {avs0 : List V} {sA : S} {r1 : Res (List MI.D)} (k0 : Kp K D g0 H0 gA H acc0 avs0) (oA : Ok K gA sA (wipe σ2 vs1) H) (hgo : compGoX vs1 t1 mc1 (mLeak me) ds1 acc0 sA = r1) (hns : r1 ≠ .stuck) {Nx : Hp → Prop}
    (hN : ∀ acc1 s1f g' H' avs, r1 = .ok acc1 s1f → GLe gA g' → Kp K D g0 H0 g' H' acc1 avs → Ok K g' s1f (wipe σ2 vs1) H' → Nx H')
    (hE : ∀ c p s0 cls d g' H' acc avs σ', r1 = .exc c p s0 → Kp K D g0 H0 g' H' acc avs → Ok K g' s0 σ' H' → wipe σ' vs1 = wipe σ2 vs1 → ExcRep K g' H' cls d c p → W' cls d σ' H') :
    ∃ W1 : Nat → Nat → Hp → Prop, (∃ m, W1 0 m H) ∧ ∀ j k H, W1 j k H →
      (J1.stop j H ∧ Nx H) ∨ (J1.go j H ∧ ∃ Nx1 : Hp → Prop, (∀ H', Nx1 H' → ∃ k', k' < k ∧ W1 (j + 1) k' H') ∧ ∀ x H', J1.yld j H x H' → gt1 x (wipe σ2 vs1) H' fun σ3 H5 => wipe σ3 vs1 = wipe σ2 vs1 ∧ tMT K W' mc1 σ3 H5 fun b H6 =>
        if b = true then tM K W' me σ3 H6 fun y H7 => ∃ acc, H7 D = some (.lst acc) ∧ acc.length < sizeLine ∧ Nx1 (upd H7 D (.lst (acc ++ [y]))) else Nx1 H6) := by
  refine ⟨fun j k H' => k = ds1.length - j ∧ j ≤ ds1.length ∧ ∃ g' s' acc avs, GLe gA g' ∧ Kp K D g0 H0 g' H' acc avs ∧ Ok K g' s' (wipe σ2 vs1) H' ∧ compGoX vs1 t1 mc1 (mLeak me) (ds1.drop j) acc s' = r1,
    ⟨ds1.length, by simp, Nat.zero_le _, gA, sA, acc0, avs0, GLe.refl _, k0, oA, by simpa using hgo⟩, ?_⟩
  rintro j k H' ⟨rfl, hj, g', s', acc, avs, lg, kp, o', hg'⟩
  obtain ⟨stp, go⟩ := hJ g' s' _ H' lg o'
  by_cases hlt : j < ds1.length
  · obtain ⟨d, hd⟩ : ∃ d, ds1[j]? = some d := ⟨_, List.getElem?_eq_getElem hlt⟩
    have hdrop : ds1.drop j = d :: ds1.drop (j + 1) := by
      rw [List.drop_eq_getElem_cons hlt]
      congr 1
      rw [List.getElem?_eq_getElem hlt] at hd
      exact Option.some.inj hd
    obtain ⟨go1, yl⟩ := go j d hd
    refine .inr ⟨go1, fun H3 => ∃ g3 s3 acc avs, GLe gA g3 ∧ Kp K D g0 H0 g3 H3 acc avs ∧ Ok K g3 s3 (wipe σ2 vs1) H3 ∧ compGoX vs1 t1 mc1 (mLeak me) (ds1.drop (j + 1)) acc s3 = r1, fun H3 z => ⟨ds1.length - (j + 1), by omega, rfl, hlt, z⟩, fun x H2 y => ?_⟩
    obtain ⟨g2, t2, k2, o2, r2⟩ := yl x H2 y
    rw [hdrop] at hg'
    unfold compGoX at hg'
    cases e : t1 d s' with
    | none => simp only [e] at hg'; exact absurd hg'.symm hns
    | some s2 =>
      simp only [e] at hg'
      obtain ⟨ws, o2', hQ⟩ := hgt g2 s' (wipe σ2 vs1) H2 x d s2 o2 r2 e
      have wq : wipe (setAll (wipe σ2 vs1) is1 ws) vs1 = wipe σ2 vs1 := wipe_setAll hsub
      refine hQ _ ⟨wq, g2, s2, o2', ?_⟩
      have kp2 := kp.step t2 k2
      have lg2 := lg.trans t2.le
      cases e2 : mc1 s2 with
      | ok b s3 =>
        simp only [e2, Res.bind_ok] at hg'
        intro g3 H3 t3 k3 o3
        show (if b = true then _ else _)
        cases b with
        | true =>
          rw [if_pos rfl] at hg'
          rw [if_pos rfl]
          unfold mLeak at hg'
          refine ⟨g3, s3, o3, ?_⟩
          cases e3 : me s3 with
          | ok r s4 =>
            simp only [e3, Res.bind_ok] at hg'
            intro g4 H4 t4 k4 o4 v rv
            cases e4 : leak r s4 with
            | none => simp only [e4, Res.bind_stuck] at hg'; exact absurd hg'.symm hns
            | some pr =>
              obtain ⟨y, s5⟩ := pr
              simp only [e4, Res.bind_ok] at hg'
              obtain ⟨g5, t5, k5, o5, ry⟩ := leak_ok o4 rv e4
              have kp5 := kp2.step ((t3.trans t4).trans t5) ((k3.trans k4).trans k5)
              by_cases hz : acc.length < sizeLine
              · rw [if_pos hz] at hg'
                obtain ⟨kp6, o6⟩ := kp5.grow o5 ry
                have ow := o6.wipe (vs := vs1)
                rw [wq] at ow
                exact ⟨avs, kp5.at_, by rw [kp5.rep.length]; exact hz, g5, wipeS s5 vs1, acc ++ [y], avs ++ [v], lg2.trans ((t3.trans t4).trans t5).le, kp6, ow, hg'⟩
              · rw [if_neg hz] at hg'; exact absurd hg'.symm hns
          | exc c p s4 =>
            simp only [e3, Res.bind_exc] at hg'
            intro cls d g4 H4 t4 k4 o4 x4
            exact hE c p s4 cls d g4 H4 acc avs _ hg'.symm (kp2.step (t3.trans t4) (k3.trans k4)) o4 wq x4
          | stuck => simp only [e3, Res.bind_stuck] at hg'; exact absurd hg'.symm hns
        | false =>
          rw [if_neg (by decide)] at hg'
          rw [if_neg (by decide)]
          have ow := o3.wipe (vs := vs1)
          rw [wq] at ow
          exact ⟨g3, wipeS s3 vs1, acc, avs, lg2.trans t3.le, kp2.step t3 k3, ow, hg'⟩
      | exc c p s3 =>
        simp only [e2, Res.bind_exc] at hg'
        intro cls d g4 H4 t4 k4 o4 x4
        exact hE c p s3 cls d g4 H4 acc avs _ hg'.symm (kp2.step t4 k4) o4 wq x4
      | stuck => simp only [e2, Res.bind_stuck] at hg'; exact absurd hg'.symm hns
  · have e : j = ds1.length := by omega
    subst e
    refine .inl ⟨stp, ?_⟩
    rw [List.drop_length] at hg'
    exact hN acc s' g' H' avs hg'.symm lg kp o'
end
section
variable {X : Cx} {W : WX}
theorem tLc2_ofX {vs vs1 is is1 : List Nat} {it it1 : S → Res (List D)} {gt gt1 : TG} {t t1 : D → S → Option S} {mc mc1 : S → Res Bool} {me : M} {σ : St} {H : Hp} {Q : VK} {g : G} {s : S}
    (hgt : MGk X.K gt is t) (hsub : ∀ i ∈ is, i ∈ vs) (hgt1 : MGk X.K gt1 is1 t1) (hsub1 : ∀ i ∈ is1, i ∈ vs1) (hv : ∀ i ∈ vs1, i ∈ vs)
    (ok : Ok X.K g s σ H) (h : PostE X.K W σ g s H (kE X.K Q) (mComp2X vs vs1 it t mc it1 t1 mc1 me s)) :
    tLc2 (tMI X.K W it) gt (tMT X.K (WB W σ) mc) (tMI X.K (WB W σ) it1) gt1 (tMT X.K (WB W σ) mc1) (tM X.K (WB W σ) me) vs vs1 σ H Q := by
  refine ⟨g, s, ok, (PostE.bind h).mono fun ds g1 s1 H1 tt1 k1 o1 h1 J hJ D hD => ?_⟩
  split at h1
  · rename_i hno
    obtain ⟨r, hr⟩ : ∃ r, compGo2X vs vs1 t mc it1 t1 mc1 (mLeak me) ds [] (wipeS s1 vs) = r := ⟨_, rfl⟩
    rw [hr] at h1
    have hns : r ≠ .stuck := fun z => by rw [z] at h1; exact h1
    have hexc : ∀ c p s0 cls d g' H' acc avs σ', r = .exc c p s0 → Kp X.K D g1 H1 g' H' acc avs → Ok X.K g' s0 σ' H' → wipe σ' vs = wipe σ vs → ExcRep X.K g' H' cls d c p → W cls d σ H' := by
      intro c p s0 cls d g' H' acc avs σ' er kp o' hw x
      rw [er] at h1
      have npD : ¬ g1.P D := o1.pnone hD
      have lg := kp.le
      have ow := o'.wipe (vs := vs)
      rw [hw] at ow
      have ob := ow.unhold (g0 := g1) (a := D) kp.pp
      have obr := o1.rest hno ob (show GLe g1 (g'.wP g1.P) from ⟨lg.F, lg.ng, lg.adr⟩)
      refine h1 cls d (g'.wP g1.P) H' ⟨⟨lg.F, lg.ng, lg.adr⟩, rfl, fun b hb => ?_⟩ kp.sk obr (x.mono wP_le)
      have hbD : b ≠ D := fun z => npD (z ▸ hb)
      have q := kp.st.keep b (.inl hb)
      rw [upd_ne hbD, upd_ne hbD] at q
      exact q
    have ok2 := o1.grow (o := .lst []) hD
    have hold := ok2.hold (a := D) (u := .lst []) upd_same (o1.fnone hD) (o1.lnone hD)
    refine ⟨fun i m H' => m = ds.length - i ∧ i ≤ ds.length ∧ ∃ g' s' acc avs, Kp X.K D g1 H1 g' H' acc avs ∧ Ok X.K g' s' (wipe σ vs) H' ∧ compGo2X vs vs1 t mc it1 t1 mc1 (mLeak me) (ds.drop i) acc s' = r,
      ⟨ds.length, by simp, Nat.zero_le _, g1.hold D, wipeS s1 vs, [], [], ⟨⟨⟨Sub.refl _, Nat.le_refl _, fun _ _ => rfl⟩, rfl, fun b _ => by rw [upd_upd]⟩, SlKeep.refl _, rfl, upd_same, .nil⟩, hold.wipe, by simpa using hr⟩, ?_⟩
    rintro i m H' ⟨rfl, hi, g', s', acc, avs, kp, o', hg'⟩
    obtain ⟨stp, go⟩ := hJ g' s' _ H' kp.le o'
    by_cases hlt : i < ds.length
    · obtain ⟨d, hd⟩ : ∃ d, ds[i]? = some d := ⟨_, List.getElem?_eq_getElem hlt⟩
      have hdrop : ds.drop i = d :: ds.drop (i + 1) := by
        rw [List.drop_eq_getElem_cons hlt]
        congr 1
        rw [List.getElem?_eq_getElem hlt] at hd
        exact Option.some.inj hd
      obtain ⟨go1, yl⟩ := go i d hd
      refine .inr ⟨go1, fun H3 => ∃ g3 s3 acc avs, Kp X.K D g1 H1 g3 H3 acc avs ∧ Ok X.K g3 s3 (wipe σ vs) H3 ∧ compGo2X vs vs1 t mc it1 t1 mc1 (mLeak me) (ds.drop (i + 1)) acc s3 = r, fun H3 z => ⟨ds.length - (i + 1), by omega, rfl, hlt, z⟩, fun x H2 y => ?_⟩
      obtain ⟨g2, t2, k2, o2, r2⟩ := yl x H2 y
      rw [hdrop] at hg'
      unfold compGo2X at hg'
      cases e : t d s' with
      | none => simp only [e] at hg'; exact absurd hg'.symm hns
      | some s2 =>
        simp only [e] at hg'
        obtain ⟨ws, o2', hQ⟩ := hgt g2 s' (wipe σ vs) H2 x d s2 o2 r2 e
        have wq : wipe (setAll (wipe σ vs) is ws) vs = wipe σ vs := wipe_setAll hsub
        refine hQ _ ⟨wq, g2, s2, o2', ?_⟩
        have kp2 := kp.step t2 k2
        cases e2 : mc s2 with
        | ok b s3 =>
          simp only [e2, Res.bind_ok] at hg'
          intro g3 H3 t3 k3 o3
          show (if b = true then _ else _)
          have kp3 := kp2.step t3 k3
          cases b with
          | true =>
            rw [if_pos rfl] at hg'
            rw [if_pos rfl]
            refine ⟨g3, s3, o3, ?_⟩
            cases e3 : it1 s3 with
            | ok ds1 s4 =>
              simp only [e3, Res.bind_ok] at hg'
              intro g4 H4 t4 k4 o4 J1 hJ1
              have kp4 := kp3.step t4 k4
              refine loop_inX hgt1 hsub1 hJ1 kp4 o4.wipe rfl (fun z => by rw [z] at hg'; exact absurd hg'.symm hns) (fun acc1 s1f g6 H6 avs6 er lg6 kp6 o6 => ?_) fun c p s0 cls d g6 H6 acc6 avs6 σ6 er kp6 o6 hw6 x6 => ?_
              · have ow := o6.wipe (vs := vs)
                rw [wipe_in hv, wq] at ow
                rw [er] at hg'
                exact ⟨g6, wipeS s1f vs, acc1, avs6, kp6, ow, hg'⟩
              · rw [er] at hg'
                refine hexc c p s0 cls d g6 H6 acc6 avs6 σ6 hg'.symm kp6 o6 ?_ x6
                rw [← wipe_in (σ := σ6) hv, hw6, wipe_in hv, wq]
            | exc c p s4 =>
              simp only [e3, Res.bind_exc] at hg'
              intro cls d g4 H4 t4 k4 o4 x4
              exact hexc c p s4 cls d g4 H4 acc avs _ hg'.symm (kp3.step t4 k4) o4 wq x4
            | stuck => simp only [e3, Res.bind_stuck] at hg'; exact absurd hg'.symm hns
          | false =>
            rw [if_neg (by decide)] at hg'
            rw [if_neg (by decide)]
            have ow := o3.wipe (vs := vs)
            rw [wq] at ow
            exact ⟨g3, wipeS s3 vs, acc, avs, kp3, ow, hg'⟩
        | exc c p s3 =>
          simp only [e2, Res.bind_exc] at hg'
          intro cls d g4 H4 t4 k4 o4 x4
          exact hexc c p s3 cls d g4 H4 acc avs _ hg'.symm (kp2.step t4 k4) o4 wq x4
        | stuck => simp only [e2, Res.bind_stuck] at hg'; exact absurd hg'.symm hns
    · have e : i = ds.length := by omega
      subst e
      refine .inl ⟨stp, ?_⟩
      rw [List.drop_length] at hg'
      unfold compGo2X at hg'
      rw [← hg'] at h1
      have ob := o'.unhold (g0 := g1) (a := D) kp.pp
      obtain ⟨_, fD, lD⟩ := o'.prot D kp.pD
      have npD : ¬ g1.P D := o1.pnone hD
      have lg := kp.le
      have obr := o1.rest hno ob (show GLe g1 (g'.wP g1.P) from ⟨lg.F, lg.ng, lg.adr⟩)
      refine h1 (g'.wP g1.P) H' ⟨⟨lg.F, lg.ng, lg.adr⟩, rfl, fun b hb => ?_⟩ kp.sk obr (.ref D) ⟨D, rfl, fD, npD, fun ⟨l, o, e, z⟩ => lD ?_, avs, kp.at_, kp.rep.mono wP_le⟩
      · have hbD : b ≠ D := fun z => npD (z ▸ hb)
        have q := kp.st.keep b (.inl hb)
        rw [upd_ne hbD, upd_ne hbD] at q
        exact q
      · cases l with
        | gl n => exact ⟨.gl n, o, e, z⟩
        | sl j =>
          have hl : s1.env.length = s'.env.length := by
            have h1 := o1.len
            have h2 := o'.len
            rw [wipe_length] at h2
            omega
          have e' : (match (restE s1.env s'.env vs)[j]? with | some (.own o) => some o | _ => none) = some o := e
          rw [restE_get _ _ hl] at e'
          by_cases hj : j ∈ vs
          · rw [if_pos hj] at e'
            split at e'
            · rename_i w q
              have := List.all_eq_true.mp hno j hj
              rw [q] at this
              cases this
            · cases e'
          · rw [if_neg hj] at e'
            exact ⟨.sl j, o, e', z⟩
  · exact h1.elim
variable {elt tg iter tg1 iter1 : Expr} {ifs ifs1 : List Expr} {scope : Scope} {own : List (Str × Nat)} {pos : Pos} {it it1 : S → Res (List D)} {gt gt1 : TG} {vs1 is is1 : List Nat} {t t1 : D → S → Option S} {mc mc1 : S → Res Bool} {me : M}
theorem me_comp2X (hc : X.calm = true) (hN : X.N.Nodup) (hst : X.stack = X.env :: X.outer) (hf : X.env.frame = some X.env.locals) (tk : Takes X W) (hi : MIt X W tg iter it) (ok : BlkOk X.N X.env.scope scope own) (hv : ∀ i ∈ vs1, i ∈ own.map (·.2)) (hgk : MGk X.K gt is t) (hsub : ∀ i ∈ is, i ∈ own.map (·.2)) (hgk1 : MGk X.K gt1 is1 t1) (hsub1 : ∀ i ∈ is1, i ∈ vs1)
    (hg : BlkX X scope fun Y _ => PG Y tg gt) (ht : BlkX X scope fun Y W' => MTs Y W' ifs mc) (hi1 : BlkX X scope fun Y W' => MIt Y W' tg1 iter1 it1) (hg1 : BlkX X scope fun Y _ => PG Y tg1 gt1) (ht1 : BlkX X scope fun Y W' => MTs Y W' ifs1 mc1) (he : BlkX X scope fun Y W' => ME Y W' elt me)
    (hs : ∀ x, foldedSetIterable iter X.env x = pure x := by intro _; rfl) (hs1 : ∀ env x, foldedSetIterable iter1 env x = pure x := by intro _ _; rfl) :
    ME X W (.ListComp elt [⟨tg, iter, ifs, 0⟩, ⟨tg1, iter1, ifs1, 0⟩] scope pos) (mComp2X (own.map (·.2)) vs1 it t mc it1 t1 mc1 me) := by
  have z := pe_lcX (W := W) (pos := pos) (tt := fun W' => tMT X.K W' mc) (tt1 := fun W' => tMT X.K W' mc1) (wi1 := fun W' => tMI X.K W' it1) (te := fun W' => tM X.K W' me) hc hN hst hf tk hi ok hv hg ht hi1 hg1 ht1 he hs hs1
  refine pe_imp z fun σ H Q h => ?_
  obtain ⟨g, s, o, h⟩ := h
  exact tLc2_ofX hgk hsub hgk1 hsub1 hv o h
end
end MI
/-! # Own classes: fields, methods, making -/
namespace MI
open PySem PySem.Spec PyProof.Rows L2
/-- a field is set -/
def putD (f : Str) (d : D) : List (Str × D) → List (Str × D)
  | [] => [(f, d)]
  | (g, x) :: r => if g = f then (g, d) :: r else (g, x) :: putD f d r
section
variable {K : PySem.W.Frag} {g : G}
theorem RepF.put {f : Str} {v : V} {d : D} (h : Rep K g v d) : ∀ {vs : List (Str × V)} {ds : List (Str × D)}, RepF K g vs ds → RepF K g (putF f v vs) (putD f d ds)
  | _, _, .nil => .cons h .nil
  | _, _, .cons (k := k) a b => by
    unfold putF putD
    by_cases z : k = f
    · rw [if_pos z, if_pos z]; exact .cons h b
    · rw [if_neg z, if_neg z]; exact .cons a (RepF.put h b)
theorem RepF.look {f : Str} {d : D} : ∀ {vs : List (Str × V)} {ds : List (Str × D)}, RepF K g vs ds → ds.lookup f = some d → ∃ v, vs.lookup f = some v ∧ Rep K g v d
  | _, _, .nil, e => by simp at e
  | _, _, .cons (k := k) a b, e => by
    rw [List.lookup_cons] at e ⊢
    cases z : f == k with
    | true => rw [z] at e; cases e; exact ⟨_, rfl, a⟩
    | false => rw [z] at e; exact RepF.look b e
theorem RepF.lookN {f : Str} : ∀ {vs : List (Str × V)} {ds : List (Str × D)}, RepF K g vs ds → ds.lookup f = none → vs.lookup f = none
  | _, _, .nil, _ => rfl
  | _, _, .cons (k := k) a b, e => by
    rw [List.lookup_cons] at e ⊢
    cases z : f == k with
    | true => rw [z] at e; cases e
    | false => rw [z] at e; exact RepF.lookN b e
theorem RepF.length : ∀ {vs : List (Str × V)} {ds : List (Str × D)}, RepF K g vs ds → vs.length = ds.length
  | _, _, .nil => rfl
  | _, _, .cons _ b => by rw [List.length_cons, List.length_cons, RepF.length b]
end
/-- the fields of the object that r is, of the class c -/
def insOf (c : Str) (s : S) (l : Loc) : Option (List (Str × D)) := match cellOf s l with
  | some (.ins c' fs) => if c' = c then some fs else none
  | _ => none
theorem insOf_ok {c : Str} {s : S} {l : Loc} {fs : List (Str × D)} (e : insOf c s l = some fs) : cellOf s l = some (.ins c fs) := by
  unfold insOf at e
  split at e
  · rename_i c' fs' h
    split at e
    · rename_i z; cases e; rw [h, z]
    · cases e
  · cases e
/-- o.f -/
def mFld (c f : Str) (o : M) : M := fun s => (o s).bind fun r s1 => match locOf r with
  | some l => (match insOf c s1 l with
    | some fs => (match fs.lookup f with
      | some d => .ok (.d d) s1
      | none => .stuck)
    | none => .stuck)
  | none => .stuck
/-- o.f = e -/
def mSetFld (c f : Str) (o m : M) : S → Res Out := fun s => (mLeak m s).bind fun d s1 => (o s1).bind fun r s2 => match locOf r with
  | some l => (match insOf c s2 l with
    | some fs => if fs.length < 1000 then .ok .nx (setCell s2 l (.ins c (putD f d fs))) else .stuck
    | none => .stuck)
  | none => .stuck
/-- o.f += e, ints -/
def mAugFld (c f : Str) (op : Int → Int → Int) (o m : M) : S → Res Out := fun s => (o s).bind fun r s1 => match locOf r with
  | some l => (match insOf c s1 l with
    | some fs => (match fs.lookup f with
      | some (.int i) => (mLeak m s1).bind fun d s2 => (match d, insOf c s2 l with
        | .int j, some fs2 => if fs2.length < 1000 then .ok .nx (setCell s2 l (.ins c (putD f (.int (op i j)) fs2))) else .stuck
        | _, _ => .stuck)
      | _ => .stuck)
    | none => .stuck)
  | none => .stuck
section
variable {X : Cx} {W : WX} {o e : Expr} {mo me : M} {c f : Str} {pos pos' tpos : Pos}
theorem me_fld (hc : L2.Cls X.K (He.ga X.K c)) (hn : NoAttr X.K (He.ga X.K c) f) (ho : ME X W o mo) (hb : attributeBase o f X.env (eval o X.env) = eval o X.env := by rfl) : ME X W (.Attribute o f pos) (mFld c f mo) := by
  refine pe_imp (pe_fld ho hb) fun σ H Q ⟨g, s, ok, h⟩ => ?_
  refine ⟨g, s, ok, (PostE.bind h).mono fun r g1 s1 H1 t1 k1 o1 h1 v rv => ?_⟩
  split at h1
  · rename_i l el
    split at h1
    · rename_i fs efs
      split at h1
      · rename_i d ed
        have ev := locOf_ok rv el
        obtain ⟨_, dx, vs, eh, rf⟩ := o1.cell l _ (insOf_ok efs)
        obtain ⟨u, eu, ru⟩ := rf.look ed
        exact ⟨_, _, dx, vs, u, ev, eh, hc, hn, eu, PostE.done h1 o1 u ru⟩
      · exact h1.elim
    · exact h1.elim
  · exact h1.elim
theorem ms_setFld (hc : L2.Cls X.K (He.ga X.K c)) (hn : NoAttr X.K (He.ga X.K c) f) (ho : ME X W o mo) (he : ME X W e me) (hs : swapsWith e (some (.Attribute o f pos')) pos.line X.env = pure false := by rfl) : MS X W (.Assign [.Attribute o f pos'] e pos) (mSetFld c f mo me) := by
  refine ps_imp (ps_fld ho he hs) fun D σ H ⟨g, s, ok, h⟩ => ?_
  refine tM_leak ok (PostS.bind h) fun d g1 s1 H1 v t1 k1 o1 rv h1 => ?_
  refine ⟨g1, s1, o1, (PostS.bind h1).mono fun r g2 s2 H2 t2 k2 o2 h2 x rx => ?_⟩
  split at h2
  · rename_i l el
    split at h2
    · rename_i fs efs
      split at h2
      · rename_i hl
        have ev := locOf_ok rx el
        have ce := insOf_ok efs
        obtain ⟨_, dx, vs, eh, rf⟩ := o2.cell l _ ce
        obtain ⟨o3, t3⟩ := o2.change (o' := .ins c (putD f d fs)) (ho := .ins (He.ga X.K c) dx (putF f v vs)) ce ⟨dx, _, upd_same, rf.put (rv.mono t2.le)⟩
        exact ⟨_, _, dx, vs, ev, eh, hc, hn, by rw [rf.length]; exact hl, h2 _ g2 _ t3 o3⟩
      · exact h2.elim
    · exact h2.elim
  · exact h2.elim
theorem ms_augFld (hc : L2.Cls X.K (He.ga X.K c)) (hn : NoAttr X.K (He.ga X.K c) f) (ho : ME X W o mo) (he : ME X W e me) : MS X W (.AugAssign (.Attribute o f tpos) .Add e pos) (mAugFld c f (fun i j => i + j) mo me) := by
  refine ps_imp (ps_fldaug ho he in_add) fun D σ H ⟨g, s, ok, h⟩ => ?_
  refine ⟨g, s, ok, (PostS.bind h).mono fun r g1 s1 H1 t1 k1 o1 h1 x rx => ?_⟩
  split at h1
  · rename_i l el
    split at h1
    · rename_i fs efs
      split at h1
      · rename_i i ei
        have ev := locOf_ok rx el
        obtain ⟨_, dx, vs, eh, rf⟩ := o1.cell l _ (insOf_ok efs)
        obtain ⟨u, eu, ru⟩ := rf.look ei
        refine ⟨_, _, dx, vs, u, ev, eh, hc, hn, eu, ?_⟩
        refine tM_leak o1 (PostS.bind h1) fun d g2 s2 H2 v t2 k2 o2 rv h2 => ?_
        split at h2
        · rename_i j fs2 efs2
          split at h2
          · rename_i hl
            have ce := insOf_ok efs2
            obtain ⟨_, dx2, vs2, eh2, rf2⟩ := o2.cell l _ ce
            have ead : g2.adr l = g1.adr l := by
              cases l with
              | sl k => exact k2 k
              | gl n => exact t2.le.adr n (by rw [o1.ng]; exact gl_cell (insOf_ok efs))
            cases ru
            cases rv
            obtain ⟨o3, t3⟩ := o2.change (o' := .ins c (putD f (.int (i + j)) fs2)) (ho := .ins (He.ga X.K c) dx2 (putF f (.int (i + j)) vs2)) ce ⟨dx2, _, upd_same, rf2.put (.int _)⟩
            rw [ead] at eh2 o3 t3
            exact ⟨i, j, rfl, rfl, dx2, vs2, eh2, by rw [rf2.length]; exact hl, h2 _ g2 _ t3 o3⟩
          · exact h2.elim
        · exact h2.elim
      · exact h1.elim
    · exact h1.elim
  · exact h1.elim
end
end MI
/-! # Fields as targets; methods; making -/
namespace L2
open PySem PySem.Spec PyProof.Rows
section
variable {X : Cx} {o e : Expr} {f : Str} {pos : Pos} {ta : TE}
def gFld (K : PySem.W.Frag) (ta : TE) (f : Str) : TG := fun v σ H Q => ta σ H fun x H1 => ∃ a C dx fs, x = .ref a ∧ H1 a = some (.ins C dx fs) ∧ Cls K C ∧ NoAttr K C f ∧ fs.length < 1000 ∧ Q σ (upd H1 a (.ins C dx (putF f v fs)))
theorem pg_fldT (he : PE X o ta) : PG X (.Attribute o f pos) (gFld X.K ta f) := by
  refine ⟨fun pins s σ H v u Q I r h => ?_⟩
  rw [assign_Attribute]
  refine wpAny_bind (wpAny_holding (thn (he.run pins s σ H _ I h) fun ov s1 ⟨x, H1, I1, rx, a, C, dx, fs, ex, ea, c, n, l, q⟩ => ?_))
  subst ex
  obtain rfl : ov = Value.ref a := rx
  refine wpAny_bind (wpAny_standAt (wpAny_bind (wpAny_holding (setattr_ok I1 ea c n l r fun s2 I2 => ?_))))
  exact wpAny_release ⟨σ, _, I2, q⟩
end
section
variable {X : Cx} {CX : CXT} {k : Nat} {f C : Addr} {fd : FuncData} {ps : List Str} {sp : Sp} {E : St → XK} {x m : Str} {p pos apos : Pos} {e o : Expr} {es : List Expr} {ta : TE} {t : TA}
def tMethE (C : Addr) (m : Str) (sp : Sp) (E : St → XK) (ta : TE) (t : TA) : TE := fun σ H Q => ta σ H fun x H1 => ∃ a dx fs, x = .ref a ∧ H1 a = some (.ins C dx fs) ∧ fs.lookup m = none ∧
  t σ H1 fun vs H2 => sp (x :: vs) H2 Q (E σ)
theorem pe_methE {pl : Sem Bool} (he : PE X o ta) (c : Cls X.K C) (hm : Meth X.K C m f) (F : FnOk X.prog X.w X.K X.mg X.base CX k f fd ps sp) (hr : Room k X.A) (hb : Binds X.K fd ps []) (hx : ∀ σ, PassesAt CX X σ (E σ)) (ha : PA X (e :: es) t)
    (hst : starEach (e :: es) X.env = (false, eval e X.env) :: starEach es X.env := by rfl) (hpl : (backTo pos (starEach es X.env)).any (·.1) = false := by rfl)
    (ht : eval (.Call (.Attribute o m apos) (e :: es) [] pos) X.env = (do
      let ov ← eval o X.env
      standAt apos.atName
      let (f, first) ← holding [ov] (getMethod ov m pl)
      callWith pos f first (backTo pos (starEach (e :: es) X.env)) (backToKw pos (keywordEach [] X.env))) := by rfl) :
    PE X (.Call (.Attribute o m apos) (e :: es) [] pos) (tMethE C m sp E ta t) := by
  refine ⟨fun pins s σ H Q I h => ?_⟩
  refine PySem.W.methodCall_KW (pl := pl) (thn (he.run pins s σ H _ I h) fun u s1 ⟨x, H1, I1, rx, a, dx, fs, ex, ea, l, q⟩ => ?_) ht
  subst ex
  obtain rfl : u = Value.ref a := rx
  refine getmeth_ok I1 ea c hm l ?_
  refine PySem.W.callWith_K (first := [.ref a]) (h₀ := X.base) I.ok.mod.kin hm.kp (thn (ha.run pos pins s1 σ H1 _ I1 q) fun us s2 ⟨vs, H2, I2, r, q2⟩ => ⟨I2.kIn, ?_⟩) hst hpl
  exact run_fnS (us := .ref a :: us) (vs := .ref a :: vs) F hr hb (hx σ) I2 (.cons rfl r) q2
theorem pe_methE0 {pl : Sem Bool} (he : PE X o ta) (c : Cls X.K C) (hm : Meth X.K C m f) (F : FnOk X.prog X.w X.K X.mg X.base CX k f fd ps sp) (hr : Room k X.A) (hb : Binds X.K fd ps []) (hx : ∀ σ, PassesAt CX X σ (E σ))
    (ht : eval (.Call (.Attribute o m apos) [] [] pos) X.env = (do
      let ov ← eval o X.env
      standAt apos.atName
      let (f, first) ← holding [ov] (getMethod ov m pl)
      callWith pos f first (backTo pos (starEach [] X.env)) (backToKw pos (keywordEach [] X.env))) := by rfl) :
    PE X (.Call (.Attribute o m apos) [] [] pos) (tMethE C m sp E ta tNil) := by
  refine ⟨fun pins s σ H Q I h => ?_⟩
  refine PySem.W.methodCall_KW (pl := pl) (thn (he.run pins s σ H _ I h) fun u s1 ⟨x, H1, I1, rx, a, dx, fs, ex, ea, l, q⟩ => ?_) ht
  subst ex
  obtain rfl : u = Value.ref a := rx
  refine getmeth_ok I1 ea c hm l ?_
  obtain ⟨_, q⟩ : True ∧ sp [.ref a] H1 Q (E σ) := ⟨trivial, q⟩
  exact PySem.W.callWith_K0 (first := [.ref a]) I1.kIn hm.kp (run_fnS (us := [.ref a]) (vs := [.ref a]) F hr hb (hx σ) I1 (.cons rfl .nil) q)
def tMakeE (C : Addr) (sp : Sp) (E : St → XK) (t : TA) : TE := fun σ H Q => t σ H fun vs H1 => ∀ x dx, H1 x = none → H1 dx = none → dx ≠ x →
  sp (.ref x :: vs) (upd (upd H1 dx (.own x)) x (.ins C dx [])) (fun v H2 => v = .non ∧ Q (.ref x) H2) (E σ)
theorem pe_makeE (M : Mk X.K C f) (F : FnOk X.prog X.w X.K X.mg X.base CX k f fd ps sp) (hr : Room (k + 1) X.A) (hg : Gl X x) (hm : X.mg x = some (.ref C)) (hb : Binds X.K fd ps []) (hx : ∀ σ, PassesAt CX X σ (E σ))
    (ha : PA X (e :: es) t) (hdb : (x == ("__debug__" : Str)) = false := by decide) (he : starEach (e :: es) X.env = (false, eval e X.env) :: starEach es X.env := by rfl) (hpl : (backTo pos (starEach es X.env)).any (·.1) = false := by rfl) :
    PE X (.Call (.Name x p) (e :: es) [] pos) (tMakeE C sp E t) := by
  refine ⟨fun pins s σ H Q I h => ?_⟩
  refine wpAny_Call_Name_kw (ld_glob I hg hm ?_ hdb)
  refine PySem.W.callWith_K (h₀ := X.base) I.ok.mod.kin M.kp (thn (ha.run pos pins s σ H _ I h) fun us s1 ⟨vs, H1, I1, r, q⟩ => ⟨I1.kIn, ?_⟩) he hpl
  have hq := q (s1.heap.objs.size + 1) s1.heap.objs.size (I1.hok.fresh (Nat.le_succ _)) (I1.hok.fresh (Nat.le_refl _)) (Nat.ne_of_lt (Nat.lt_succ_self _))
  have I2 := Inv.made (C := C) I1
  have r2 : Vals (V.ref (s1.heap.objs.size + 1) :: vs) (Value.ref (s1.heap.objs.size + 1) :: us) := .cons rfl r
  have hl : (Value.ref (s1.heap.objs.size + 1) :: us).length = ps.length := by
    have e := r2.length
    rw [F.len _ _ _ _ hq] at e
    exact e.symm
  have bnd := hb { s1 with heap := (s1.heap.push PySem.W.emptyDict).push (PySem.W.instObj C s1.heap.objs.size) } (Value.ref (s1.heap.objs.size + 1) :: us) I2.kIn (by rw [List.append_nil]; exact hl)
  rw [List.append_nil] at bnd
  show wpAny _ _ (call (.ref C) us) _ _ _
  refine wpAny_call (make_map (f := f) I1.kIn M.makes M.init (beq_iff_eq.mp M.fn) (codeAny_mono (F.run _ X.stack _ _ ⟨Value.ref (s1.heap.objs.size + 1) :: us, []⟩ (Value.ref (s1.heap.objs.size + 1) :: us) _ _ (E σ) (hr.make C us [])
    (I2.env0.make C us []) bnd r2 hq) fun r s' hq' => ?_))
  cases r with
  | error e => exact hx σ pins _ _ e s' I2 hq'
  | ok fl =>
    cases fl with
    | ret u =>
      obtain ⟨v, H', I3, rv, ev, q3⟩ := I2.after hq'
      subst ev
      exact ⟨rv, ⟨V.ref (s1.heap.objs.size + 1), H', I3, rfl, q3⟩⟩
    | next => exact False.elim hq'
    | brk => exact False.elim hq'
    | cont => exact False.elim hq'
end
end L2
namespace MI
open PySem PySem.Spec PyProof.Rows L2
/-! ### targets -/
def MGFk (K : PySem.W.Frag) (gt : TG) (t : D → S → Option S) : Prop :=
  ∀ g s σ H v d s', Ok K g s σ H → Rep K g v d → t d s = some s' → ∀ Q : L2.St → Hp → Prop, (∀ g' σ' H', Step g H g' H' → Ok K g' s' σ' H' → Q σ' H') → gt v σ H Q
def MGFks (K : PySem.W.Frag) (gt : TGs) (t : List D → S → Option S) : Prop :=
  ∀ g s σ H vs ds s', Ok K g s σ H → RepL K g vs ds → t ds s = some s' → ∀ Q : L2.St → Hp → Prop, (∀ g' σ' H', Step g H g' H' → Ok K g' s' σ' H' → Q σ' H') → gt vs σ H Q
structure MGF (X : Cx) (tg : Expr) (gt : TG) (t : D → S → Option S) : Prop where
  pg : PG X tg gt
  ok : MGFk X.K gt t
structure MGFs (X : Cx) (es : List Expr) (n : Nat) (gt : TGs) (t : List D → S → Option S) : Prop where
  pg : PGs X es gt
  ok : MGFks X.K gt t
  len : ∀ ds s s', t ds s = some s' → ds.length = n
/-- x.f where x is the i-th name -/
def tgFld (c f : Str) (i : Nat) : D → S → Option S := fun d s => match s.env[i]? with
  | some (.val (.ref n)) => (match insOf c s (.gl n) with
    | some fs => if fs.length < 1000 then some (setCell s (.gl n) (.ins c (putD f d fs))) else none
    | none => none)
  | _ => none
section
variable {X : Cx} {W : WX} {e : Expr} {es : List Expr} {me : M} {pos : Pos} {gt : TG} {gts : TGs} {is : List Nat} {t : D → S → Option S} {ts : List D → S → Option S} {n : Nat} {c f : Str}
theorem mgf_name {i : Nat} {x : Str} (hN : X.N.Nodup) (hi : X.N[i]? = some x := by rfl) (hx : L2.Loc X.env.scope x := by first | exact Or.inl rfl | exact Or.inr rfl) (hf : X.fn x = true ∨ X.env.scope.names.lookup x = some .local := by first | exact .inl rfl | exact .inr rfl) :
    MGF X (.Name x pos) (gName i) (tgName i) := by
  have h := mg2_name (X := X) (pos := pos) hN hi hx hf
  refine ⟨h.pg, fun g s σ H v d s' ok r e Q hQ => ?_⟩
  obtain ⟨ws, _, o, q⟩ := h.ok g s σ H v d s' ok r e
  exact q Q (hQ g _ H (Step.refl _ _) o)
theorem mgf_fld {i : Nat} {x : Str} {p2 : Pos} (hc : L2.Cls X.K (He.ga X.K c)) (hn : NoAttr X.K (He.ga X.K c) f) (hv : ME X W0 (.Name x p2) (mVar i)) :
    MGF X (.Attribute (.Name x p2) f pos) (gFld X.K (tM X.K W0 (mVar i)) f) (tgFld c f i) := by
  refine ⟨pg_fldT hv, fun g s σ H v d s' ok r e Q hQ => ?_⟩
  unfold tgFld at e
  split at e
  · rename_i k ek
    split at e
    · rename_i fs efs
      split at e
      · rename_i hl
        cases e
        have ce := insOf_ok efs
        refine ⟨g, s, ok, ?_⟩
        have ev : mVar i s = .ok (.d (.ref k)) s := by unfold mVar; rw [ek]
        rw [ev]
        intro g' H' t' k' o' w rw'
        obtain ⟨_, dx, vs, eh, rf⟩ := o'.cell _ _ ce
        obtain ⟨o3, t3⟩ := o'.change (o' := .ins c (putD f d fs)) (ho := .ins (He.ga X.K c) dx (putF f v vs)) ce ⟨dx, _, upd_same, rf.put (r.mono t'.le)⟩
        cases (show Rep X.K g' w (.ref k) from rw')
        exact ⟨_, _, dx, vs, rfl, eh, hc, hn, by rw [rf.length]; exact hl, hQ g' σ _ (t'.trans t3) o3⟩
      · cases e
    · cases e
  · cases e
theorem mgfs_nil : MGFs X [] 0 gNil tgsNil := by
  refine ⟨pgs_nil, fun g s σ H vs ds s' ok r e Q hQ => ?_, fun ds s s' e => ?_⟩
  · cases r with
    | nil =>
      unfold tgsNil at e
      cases e
      exact ⟨rfl, hQ g σ H (Step.refl _ _) ok⟩
    | cons a b => cases e
  · cases ds with
    | nil => rfl
    | cons a b => cases e
theorem mgfs_cons (h1 : MGF X e gt t) (h2 : MGFs X es n gts ts) (hs : (assignEach (e :: es) X.env).map (·.2) = PySem.assign e X.env :: (assignEach es X.env).map (·.2) := by rfl) :
    MGFs X (e :: es) (n + 1) (gCons gt gts) (tgsCons t ts) := by
  refine ⟨pgs_cons h1.pg h2.pg hs, fun g s σ H vs ds s' ok r e Q hQ => ?_, fun ds s s' e => ?_⟩
  · cases r with
    | nil => cases e
    | @cons v vr d dr ra rb =>
      unfold tgsCons at e
      simp only at e
      cases q : t d s with
      | none => rw [q] at e; cases e
      | some s1 =>
        rw [q] at e
        simp only at e
        refine ⟨v, vr, rfl, h1.ok g s σ H v d s1 ok ra q _ fun g' σ' H' t' o' => ?_⟩
        exact h2.ok g' s1 σ' H' vr dr s' o' (rb.mono t'.le) e _ fun g2 σ2 H2 t2 o2 => hQ g2 σ2 H2 (t'.trans t2) o2
  · cases ds with
    | nil => cases e
    | cons d dr =>
      unfold tgsCons at e
      simp only at e
      cases q : t d s with
      | none => rw [q] at e; cases e
      | some s1 =>
        rw [q] at e
        simp only at e
        rw [List.length_cons, h2.len dr s1 s' e]
/-- (t1, .., tn) = e: names and fields -/
def mUnpF (t : List D → S → Option S) (m : M) : S → Res Out := fun s => (mLeak m s).bind fun d s1 => match d with
  | .tup ds => (match t ds s1 with
    | some s2 => .ok .nx s2
    | none => .stuck)
  | _ => .stuck
theorem ms_unpF {kt : Nat} {pt pos : Pos} (hc : X.calm = true) (he : ME X W e me) (h : MGFs X es n gts ts)
    (hn : (assignEach es X.env).length = n := by rfl) (hst : (assignEach es X.env).findIdx? (·.1) = none := by rfl)
    (hs : swapsWithSole [.Tuple es kt pt] e pos.line X.env = pure false := by rfl) (hw : swappedStores [.Tuple es kt pt] e X.env = pure none := by rfl)
    (h1 : (assignEach [.Tuple es kt pt] X.env).map (·.2) = [PySem.assign (.Tuple es kt pt) X.env] := by rfl) :
    MS X W (.Assign [.Tuple es kt pt] e pos) (mUnpF ts me) := by
  refine ps_imp (ps_asg he (pg_tup hc h.pg hn hst) hs hw h1) fun D σ H ⟨g, s, ok, hh⟩ => ?_
  refine tM_leak ok (PostS.bind hh) fun d g1 s1 H1 v t1 k1 o1 rv h1 => ?_
  split at h1
  · rename_i ds
    split at h1
    · rename_i s2 e2
      cases rv with
      | tup hq rl =>
        exact ⟨_, _, rfl, sqT_mono o1.sub hq, rl.length.trans (h.len _ _ _ e2), h.ok g1 s1 σ H1 _ ds s2 o1 rl e2 _ fun g' σ' H' t' o' => h1 σ' g' H' t' o'⟩
    · exact h1.elim
  · exact h1.elim
end
/-! ### methods -/
/-- the method m of the class c keeps fm's promise -/
structure MtM (P : Program) (w : World) (K : PySem.W.Frag) (mg : Str → Option Value) (base : Heap) (k : Nat) (c m : Str) (ps : List Str) (fm : Fm) : Prop where
  ex : ∃ f fd, FnOk P w K mg base (L2.CX P w) k f fd ps (spM K fm) ∧ Meth K (He.ga K c) m f ∧ Binds K fd ps []
/-- the class c is made by an __init__ that keeps fm's promise -/
structure MkM (P : Program) (w : World) (K : PySem.W.Frag) (mg : Str → Option Value) (base : Heap) (k : Nat) (c : Str) (ps : List Str) (fm : Fm) : Prop where
  ex : ∃ f fd, FnOk P w K mg base (L2.CX P w) k f fd ps (spM K fm) ∧ Mk K (He.ga K c) f ∧ Binds K fd ps [] ∧ mg c = some (.ref (He.ga K c))
def mMeth (c m : Str) (fm : Fm) (o : M) (a : S → Res (List D)) : M := fun s => (o s).bind fun r s1 => match r with
  | .d (.ref n) => (match insOf c s1 (.gl n) with
    | some fs => (match fs.lookup m with
      | none => (a s1).bind fun ds s2 => (match fm (.ref n :: ds) s2.gl with
        | .ok d gl => .ok (.d d) { s2 with gl := gl }
        | .exc x p gl => .exc x p { s2 with gl := gl }
        | .stuck => .stuck)
      | some _ => .stuck)
    | none => .stuck)
  | _ => .stuck
def mMake (c : Str) (fm : Fm) (a : S → Res (List D)) : M := fun s => (a s).bind fun ds s1 => match fm (.ref s1.gl.length :: ds) (s1.gl ++ [.ins c []]) with
  | .ok .non gl => .ok (.d (.ref s1.gl.length)) { s1 with gl := gl }
  | .exc x p gl => .exc x p { s1 with gl := gl }
  | _ => .stuck
section
variable {X : Cx} {W : WX} {o e : Expr} {es : List Expr} {mo : M} {ma : S → Res (List D)} {c m : Str} {p pos apos : Pos} {k j : Nat} {ps : List Str} {fm : Fm}
theorem meth_of {σ : L2.St} {H : Hp} {Q : VK} {t : TA} {C : Addr} (hC : C = He.ga X.K c) {g : G} {s : S} (ok : Ok X.K g s σ H) (hta : t = tMA X.K W ma)
    (h : PostE X.K W σ g s H (kE X.K Q) (mMeth c m fm mo ma s)) : tMethE C m (spM X.K fm) (WE W) (tM X.K W mo) t σ H Q := by
  subst hta hC
  refine ⟨g, s, ok, (PostE.bind h).mono fun r g1 s1 H1 t1 k1 o1 h1 v rv => ?_⟩
  split at h1
  · rename_i n
    split at h1
    · rename_i fs efs
      split at h1
      · rename_i el
        have ce := insOf_ok efs
        obtain ⟨_, dx, vs, eh, rf⟩ := o1.cell _ _ ce
        have rv : Rep X.K g1 v (.ref n) := rv
        cases rv with
        | ref _ hn =>
          refine ⟨_, dx, vs, rfl, eh, rf.lookN el, g1, s1, o1, (PostE.bind h1).mono fun ds g2 s2 H2 t2 k2 o2 h2 us ru => ?_⟩
          exact sp_call o2 (.cons ((Rep.ref n hn).mono t2.le) ru) h2 fun _ _ _ h => h
      · exact h1.elim
    · exact h1.elim
  · exact h1.elim
theorem me_meth {pl : Sem Bool} (F : MtM X.prog X.w X.K X.mg X.base k c m ps fm) (hr : Room j X.A) (hj : k ≤ j) (hc : L2.Cls X.K (He.ga X.K c)) (tk : Takes X W) (ho : ME X W o mo) (ha : MA X W (e :: es) ma)
    (hst : starEach (e :: es) X.env = (false, eval e X.env) :: starEach es X.env := by rfl) (hpl : (backTo pos (starEach es X.env)).any (·.1) = false := by rfl)
    (ht : eval (.Call (.Attribute o m apos) (e :: es) [] pos) X.env = (do
      let ov ← eval o X.env
      standAt apos.atName
      let (f, first) ← holding [ov] (getMethod ov m pl)
      callWith pos f first (backTo pos (starEach (e :: es) X.env)) (backToKw pos (keywordEach [] X.env))) := by rfl) :
    ME X W (.Call (.Attribute o m apos) (e :: es) [] pos) (mMeth c m fm mo ma) := by
  obtain ⟨f, fd, F1, hm, hb⟩ := F.ex
  refine pe_imp (pe_methE ho hc hm F1 (hr.mono hj) hb (fun σ => passAt tk σ) ha hst hpl ht) fun σ H Q ⟨g, s, ok, h⟩ => ?_
  exact meth_of rfl ok rfl h
theorem me_meth0 {pl : Sem Bool} (F : MtM X.prog X.w X.K X.mg X.base k c m ps fm) (hr : Room j X.A) (hj : k ≤ j) (hc : L2.Cls X.K (He.ga X.K c)) (tk : Takes X W) (ho : ME X W o mo)
    (ht : eval (.Call (.Attribute o m apos) [] [] pos) X.env = (do
      let ov ← eval o X.env
      standAt apos.atName
      let (f, first) ← holding [ov] (getMethod ov m pl)
      callWith pos f first (backTo pos (starEach [] X.env)) (backToKw pos (keywordEach [] X.env))) := by rfl) :
    ME X W (.Call (.Attribute o m apos) [] [] pos) (mMeth c m fm mo mANil) := by
  obtain ⟨f, fd, F1, hm, hb⟩ := F.ex
  refine pe_imp (pe_methE0 ho hc hm F1 (hr.mono hj) hb (fun σ => passAt tk σ) ht) fun σ H Q ⟨g, s, ok, h⟩ => ?_
  have z := meth_of (t := tMA X.K W mANil) rfl ok rfl h
  unfold tMethE at z ⊢
  refine (show TE from tM X.K W mo) |> fun _ => ?_
  obtain ⟨g0, s0, ok0, q⟩ := z
  refine ⟨g0, s0, ok0, q.mono fun r g1 s1 H1 t1 k1 o1 q1 v rv => ?_⟩
  obtain ⟨a, dx, fs, e1, e2, e3, g2, s2, o2, q2⟩ := q1 v rv
  exact ⟨a, dx, fs, e1, e2, e3, q2 g2 H1 (Step.refl _ _) (SlKeep.refl _) o2 [] .nil⟩
theorem me_make (F : MkM X.prog X.w X.K X.mg X.base k c ps fm) (hr : Room j X.A) (hj : k + 1 ≤ j) (hg : Gl X c) (tk : Takes X W) (ha : MA X W (e :: es) ma)
    (hdb : (c == ("__debug__" : Str)) = false := by decide) (he : starEach (e :: es) X.env = (false, eval e X.env) :: starEach es X.env := by rfl) (hpl : (backTo pos (starEach es X.env)).any (·.1) = false := by rfl) :
    ME X W (.Call (.Name c p) (e :: es) [] pos) (mMake c fm ma) := by
  obtain ⟨f, fd, F1, hmk, hb, hm⟩ := F.ex
  refine pe_imp (pe_makeE hmk F1 (hr.mono hj) hg hm hb (fun σ => passAt tk σ) ha hdb he hpl) fun σ H Q ⟨g, s, ok, h⟩ => ?_
  refine ⟨g, s, ok, (PostE.bind h).mono fun ds g1 s1 H1 t1 k1 o1 h1 vs ru x dx hx hdx hne => ?_⟩
  have oa := o1.grow (o := .own x) hdx
  have hx2 : (upd H1 dx (.own x)) x = none := by rw [upd_ne (Ne.symm hne)]; exact hx
  have ob := oa.grow (o := .ins (He.ga X.K c) dx []) hx2
  have ta := Step.grow (o := .own x) o1 hdx
  have tb := Step.grow (o := .ins (He.ga X.K c) dx []) oa hx2
  have oc := ob.add (a := x) (o := .ins c []) (o1.fnone hx) (o1.pnone hx) (o1.lnone hx) ⟨dx, [], upd_same, .nil⟩
  have sk : SlKeep g1 (g1.add x) := fun j => show (if Loc.sl j = Loc.gl g1.ng then x else g1.adr (.sl j)) = g1.adr (.sl j) from if_neg (by intro z; cases z)
  have tc : Step g1 (upd (upd H1 dx (.own x)) x (.ins (He.ga X.K c) dx [])) (g1.add x) (upd (upd H1 dx (.own x)) x (.ins (He.ga X.K c) dx [])) := ⟨add_le, rfl, fun _ _ => rfl⟩
  have tt := (ta.trans tb).trans tc
  have adx : (g1.add x).adr (.gl s1.gl.length) = x := by rw [← o1.ng]; exact if_pos rfl
  have hng : s1.gl.length < (g1.add x).ng := by rw [← o1.ng]; exact Nat.lt_succ_self _
  have rx : Rep X.K (g1.add x) (.ref x) (.ref s1.gl.length) := by
    have := Rep.ref (K := X.K) (g := g1.add x) s1.gl.length hng
    rwa [adx] at this
  refine sp_call (s := { s1 with gl := s1.gl ++ [.ins c []] }) (W := W) oc (.cons rx (ru.mono tt.le)) ?_ fun _ _ _ h => h
  have h2 := h1.after tt sk (s' := { s1 with gl := s1.gl ++ [.ins c []] })
  cases q : fm (.ref s1.gl.length :: ds) (s1.gl ++ [.ins c []]) with
  | ok d gl =>
    rw [q] at h2
    cases d with
    | non =>
      intro g' H' t' k' o' v rv
      have rv : Rep X.K g' v .non := rv
      cases rv
      refine ⟨rfl, h2 g' H' t' k' o' (.ref x) ?_⟩
      have := (rx.mono t'.le)
      exact this
    | _ => exact h2.elim
  | exc a b gl => rw [q] at h2; exact h2
  | stuck => rw [q] at h2; exact h2.elim
end
end MI
/-! # Methods by name; what the head says of classes -/
namespace MI
open PySem PySem.Spec PyProof.Rows L2 PySem.W
def BindOk2 (x q : Str) (args : Arguments) (body : List Stmt) (scope : Scope) (ps : List Str) : Prop :=
  ∀ (kV doc pm : Value) (an : Option Addr) (cdv ct : Value) (us : List Value), us.length = ps.length → bindArgs (PySem.W.fnOf x q args body scope .none kV doc pm an cdv ct) ⟨us, []⟩ = pure (ps.zip us)
/-- what the head says of a method -/
def DefMt (K : Frag) (c m q : Str) (args : Arguments) (body : List Stmt) (scope : Scope) : Prop :=
  ∃ f fd, FunD K m q args body scope [] [] f fd ∧ Meth K (He.ga K c) m f
/-- what it says of an __init__ -/
def DefMk (K : Frag) (mg : Str → Option Value) (c q : Str) (args : Arguments) (body : List Stmt) (scope : Scope) : Prop :=
  ∃ f fd, FunD K "__init__" q args body scope [] [] f fd ∧ Mk K (He.ga K c) f ∧ mg c = some (.ref (He.ga K c))
section
variable {P : Program} {w : World} {K : Frag} {mg : Str → Option Value} {base : Heap} {c x q : Str} {args : Arguments} {body : List Stmt} {scope : Scope} {N ps : List Str} {k : Nat} {m : S → Res Out}
theorem mtM (F : DefMt K c x q args body scope) (Sc : FnScope N ps scope) (hN : ps.length ≤ N.length) (hB : BindOk2 x q args body scope ps)
    (hbody : ∀ (f : Addr) (cdv : Value) (A : Around) (outer : List Env) (s : Shared) (H : Hp) (E : XK), Room k (A.deeper (envOfC q scope s.heap.objs.size f cdv)) →
      MSs (cxOf (L2.CX P w) P w K mg base N q scope f cdv A outer s H E) (wx E) body m) :
    MtM P w K mg base (k + 1) c x ps (mDef ps.length N.length m) := by
  obtain ⟨f, fd, F1, hm⟩ := F
  exact ⟨f, fd, fn_mirror F1 Sc hN (fun cdv A outer s H E hr => hbody f cdv A outer s H E hr), hm, F1.bindsN hB⟩
theorem mkM (F : DefMk K mg c q args body scope) (Sc : FnScope N ps scope) (hN : ps.length ≤ N.length) (hB : BindOk2 "__init__" q args body scope ps)
    (hbody : ∀ (f : Addr) (cdv : Value) (A : Around) (outer : List Env) (s : Shared) (H : Hp) (E : XK), Room k (A.deeper (envOfC q scope s.heap.objs.size f cdv)) →
      MSs (cxOf (L2.CX P w) P w K mg base N q scope f cdv A outer s H E) (wx E) body m) :
    MkM P w K mg base (k + 1) c ps (mDef ps.length N.length m) := by
  obtain ⟨f, fd, F1, hm, hg⟩ := F
  exact ⟨f, fd, fn_mirror F1 Sc hN (fun cdv A outer s H E hr => hbody f cdv A outer s H E hr), hm, F1.bindsN hB, hg⟩
end
section
variable {d : HdX} {P : Program} {K : Frag} {h : Heap} {mg : Str → Option Value}
theorem HdX.says.cls (c : d.says K) (j : Nat) {x : Str} (e : d.fa[j]? = some (.cls x) := by rfl) : L2.Cls K (He.ga K x) := He.cls_ok (c.fact j e)
theorem HdX.says.noat (c : d.says K) (j : Nat) {x f : Str} (e : d.fa[j]? = some (.noat x f) := by rfl) : NoAttr K (He.ga K x) f := He.noat_ok (c.fact j e)
theorem HdX.says.fun_ (c : d.says K) (i : Nat) {D : He.DefD} (e : d.fn[i]? = some D) : ∃ fd, FunD K D.name D.qual D.params D.body D.scope (D.dvs K) (D.kws K) (He.fAd K D.at_) fd := by
  have c1 := (Bool.and_eq_true_iff.mp (Bool.and_eq_true_iff.mp c.ok).2).1
  have q : d.fn.map (fun f => He.fnW K f.at_) = d.fn.map He.DefD.val := congrArg (fun z : AlX => z.2.1) c
  have q2 : (d.fn.map fun f => He.fnW K f.at_)[i]? = (d.fn.map He.DefD.val)[i]? := by rw [q]
  rw [List.getElem?_map, List.getElem?_map, e] at q2
  exact He.DefD.funD (Option.some.inj q2) (List.all_eq_true.mp c1 _ (List.mem_of_getElem? e))
theorem HdX.says.mt_ (c : d.says K) (i j : Nat) {x m qual : Str} {params : Arguments} {body : List Stmt} {scope : Scope} (e : d.fn[i]? = some ⟨(x, some m), m, qual, params, body, scope, [], []⟩ := by rfl) (e2 : d.fa[j]? = some (.meth x m) := by rfl) :
    DefMt K x m qual params body scope := by
  obtain ⟨fd, F⟩ := c.fun_ i e
  exact ⟨_, fd, F, He.meth_ok (c.fact j e2)⟩
theorem HdX.says.mk_ (c : d.says K) (X : K.In h) (G : h.Ns mainGlobals mg) (i j l : Nat) {x qual : Str} {params : Arguments} {body : List Stmt} {scope : Scope} (e : d.fn[i]? = some ⟨(x, some "__init__"), "__init__", qual, params, body, scope, [], []⟩ := by rfl) (e2 : d.fa[j]? = some (.mkr x) := by rfl) (e3 : d.fa[l]? = some (.glo x) := by rfl) :
    DefMk K mg x qual params body scope := by
  obtain ⟨fd, F⟩ := c.fun_ i e
  exact ⟨_, fd, F, He.mkr_ok (c.fact j e2), He.glo_ok X G (c.fact l e3)⟩
end
end MI
/-! # Running mirrors: equations for simp -/
namespace MI
open PySem PySem.Spec PyProof.Rows L2

section
variable {s : S} {i j : Int} {x y : D} {e : List Slot} {gl : List MObj} {xs ys : List D}
theorem q_var_val {n : Nat} (h : e[n]? = some (.val x)) : mVar n ⟨e, gl⟩ = .ok (.d x) ⟨e, gl⟩ := by
  unfold mVar; simp only [h]
theorem q_var_own {n : Nat} {o : MObj} (h : e[n]? = some (.own o)) : mVar n ⟨e, gl⟩ = .ok (.at n) ⟨e, gl⟩ := by
  unfold mVar; simp only [h]
theorem q_c : mC x s = .ok (.d x) s := rfl
@[simp] theorem q_settle_d : settle (.d x) = some (.d x) := rfl
@[simp] theorem q_settle_at {n : Nat} : settle (.at n) = some (.at n) := rfl
@[simp] theorem q_settle_lst : settle (.new (.lst xs)) = some (.d (.lst xs)) := rfl
@[simp] theorem q_settle_dic {kvs : List (Key × D)} : settle (.new (.dic kvs)) = some (.d (.dic kvs)) := rfl
@[simp] theorem q_leak_d : leak (.d x) s = some (x, s) := rfl
@[simp] theorem q_leak_lst : leak (.new (.lst xs)) s = some (.lst xs, s) := rfl
@[simp] theorem q_leak_dic {kvs : List (Key × D)} : leak (.new (.dic kvs)) s = some (.dic kvs, s) := rfl
theorem q_leak_at {n : Nat} {o : MObj} {d : D} (h : e[n]? = some (.own o)) (hf : frzO o = some d) : leak (.at n) ⟨e, gl⟩ = some (d, ⟨e.set n (.val d), gl⟩) := by
  unfold leak; simp only [h, hf, Option.map_some]
@[simp] theorem q_frz_lst : frzO (.lst xs) = some (.lst xs) := rfl
@[simp] theorem q_frz_dic {kvs : List (Key × D)} : frzO (.dic kvs) = some (.dic kvs) := rfl
/- operations -/
@[simp] theorem q_add : opAdd s (.d (.int i)) (.d (.int j)) = .ok (.d (.int (i + j))) s := rfl
@[simp] theorem q_sub : opSub s (.d (.int i)) (.d (.int j)) = .ok (.d (.int (i - j))) s := rfl
theorem q_mul (h : cMul i j = true) : opMul s (.d (.int i)) (.d (.int j)) = .ok (.d (.int (i * j))) s := by
  unfold opMul orF opMulI fI asInt; simp only [h, if_true]
theorem q_mulR (h : j.natAbs < 2 ^ 64) : opMul s (.d (.int i)) (.d (.int j)) = .ok (.d (.int (i * j))) s := q_mul (by unfold cMul; simp only [decide_eq_true h, Bool.or_true, Bool.true_or])
theorem q_mulL (h : i.natAbs < 2 ^ 64) : opMul s (.d (.int i)) (.d (.int j)) = .ok (.d (.int (i * j))) s := q_mul (by unfold cMul; simp only [decide_eq_true h, Bool.or_true, Bool.true_or])
theorem q_mod (h : 0 < j) : opMod s (.d (.int i)) (.d (.int j)) = .ok (.d (.int (i % j))) s := by
  unfold opMod fI asInt cMod; simp only [decide_eq_true h, if_true]
theorem q_fdiv (h : 0 < j) (h2 : j < 1073741824) : opFdiv s (.d (.int i)) (.d (.int j)) = .ok (.d (.int (i / j))) s := by
  unfold opFdiv fI asInt cFdiv; simp only [decide_eq_true h, decide_eq_true h2, Bool.true_or, Bool.and_self, if_true]
theorem q_fdivW (h : 0 < j) (h2 : j.natAbs.log2 < 9000) : opFdiv s (.d (.int i)) (.d (.int j)) = .ok (.d (.int (i / j))) s := by
  unfold opFdiv fI asInt cFdiv; simp only [decide_eq_true h, decide_eq_true h2, Bool.or_true, Bool.and_self, if_true]
theorem q_addT (h : xs.length + ys.length ≤ sizeLine) : opAdd s (.d (.tup xs)) (.d (.tup ys)) = .ok (.d (.tup (xs ++ ys))) s := by
  unfold opAdd orF opAddI fI asInt opAddS asStr opAddT asTup; simp only [h, if_true]
theorem q_addL {a b : RV} (ha : asLst s a = some xs) (hb : asLst s b = some ys) (h : xs.length + ys.length ≤ sizeLine) : opAdd s a b = .ok (.new (.lst (xs ++ ys))) s := by
  have i1 : asInt a = none := by cases a with
    | d z => cases z <;> first | rfl | cases ha
    | «at» n => rfl
    | new o => rfl
  have i2 : asStr a = none := by cases a with
    | d z => cases z <;> first | rfl | cases ha
    | «at» n => rfl
    | new o => rfl
  have i3 : asTup a = none := by cases a with
    | d z => cases z <;> first | rfl | cases ha
    | «at» n => rfl
    | new o => rfl
  unfold opAdd orF opAddI fI opAddS opAddT opAddL
  simp only [i1, i2, i3, ha, hb, h, if_true]
theorem q_mulT1 : opMul s (.d (.tup xs)) (.d (.int 1)) = .ok (.d (.tup xs)) s := by
  have h : opMulT s (.d (.tup xs)) (.d (.int 1)) = .ok (.d (.tup xs)) s := by simp [opMulT, asTup, asInt]
  show (match opMulT s (.d (.tup xs)) (.d (.int 1)) with | .stuck => _ | r => r) = _
  rw [h]
theorem q_mulT {k : Int} (h0 : 2 ≤ k) (h1 : k ≤ 1000) (h2 : xs.length ≤ 1000) : opMul s (.d (.tup xs)) (.d (.int k)) = .ok (.d (.tup (List.replicate k.toNat xs).flatten)) s := by
  have h : opMulT s (.d (.tup xs)) (.d (.int k)) = .ok (.d (.tup (List.replicate k.toNat xs).flatten)) s := by
    by_cases hx : xs = []
    · subst hx
      have a1 : -(2 ^ 63) ≤ k := by omega
      have a2 : k < 2 ^ 63 := by omega
      have a3 : (List.replicate k.toNat ([] : List D)).flatten = [] := by simp
      rw [a3]
      simp only [opMulT, asTup, asInt, List.isEmpty_nil, Bool.true_or, if_true, a1, a2, and_self]
    · have e1 : xs.isEmpty = false := by cases xs with
        | nil => exact absurd rfl hx
        | cons _ _ => rfl
      have e2 : (k == 1) = false := by simp; omega
      simp only [opMulT, asTup, asInt, e1, e2, Bool.or_self, Bool.false_eq_true, if_false, h0, h1, h2, and_self, if_true]
  show (match opMulT s (.d (.tup xs)) (.d (.int k)) with | .stuck => _ | r => r) = _
  rw [h]
@[simp] theorem q_lt : opLt s (.d (.int i)) (.d (.int j)) = .ok (.d (.bl (decide (i < j)))) s := rfl
@[simp] theorem q_le : opLe s (.d (.int i)) (.d (.int j)) = .ok (.d (.bl (decide (i ≤ j)))) s := rfl
@[simp] theorem q_gt : opGt s (.d (.int i)) (.d (.int j)) = .ok (.d (.bl (decide (j < i)))) s := rfl
@[simp] theorem q_ge : opGe s (.d (.int i)) (.d (.int j)) = .ok (.d (.bl (decide (j ≤ i)))) s := rfl
theorem q_ixT {d : D} {zs : List D} (h : atI zs i = some d) : opIx s (.d (.tup zs)) (.d (.int i)) = .ok (.d d) s := by
  simp only [opIx, asInt, asTup, h]
theorem q_ixL {a : RV} {d : D} {zs : List D} (ha : asLst s a = some zs) (h : atI zs i = some d) : opIx s a (.d (.int i)) = .ok (.d d) s := by
  have h1 : asTup a = none := by cases a with
    | d z => cases z <;> first | rfl | cases ha
    | «at» n => rfl
    | new o => rfl
  simp only [opIx, asInt, h1, ha, h]
@[simp] theorem q_eqI {n : Bool} : opEq n s (.d (.int i)) (.d (.int j)) = .ok (.d (.bl ((i == j) != n))) s := rfl
theorem q_eq {n b : Bool} (hx : asD s (.d x) = some x) (hy : asD s (.d y) = some y) (h : eqvO 40 x y = some b) : opEq n s (.d x) (.d y) = .ok (.d (.bl (b != n))) s := by
  unfold opEq; simp only [hx, hy, h]
theorem eqAll_int {m : Nat} : ∀ (a b : List Int), eqAll (eqvO m) (a.map D.int) (b.map D.int) = some (decide (a = b))
  | [], [] => by simp [eqAll]
  | [], _ :: _ => by simp [eqAll]
  | _ :: _, [] => by simp [eqAll]
  | x :: xs, y :: ys => by
    have e : eqvO m (.int x) (.int y) = some (x == y) := by cases m <;> rfl
    simp only [List.map_cons, eqAll, e, eqAll_int xs ys, List.cons.injEq]
    by_cases h1 : x = y <;> by_cases h2 : xs = ys <;> simp [h1, h2]
@[simp] theorem q_eqT {n : Bool} {a b : List Int} : opEq n s (.d (.tup (a.map D.int))) (.d (.tup (b.map D.int))) = .ok (.d (.bl (decide (a = b) != n))) s :=
  q_eq rfl rfl (show eqAll (eqvO 39) (a.map D.int) (b.map D.int) = _ from eqAll_int a b)
@[simp] theorem q_lenT : fLen s (.d (.tup xs)) = .ok (.d (.int xs.length)) s := rfl
theorem q_lenL {a : RV} {zs : List D} (h : asD s a = some (.lst zs)) : fLen s a = .ok (.d (.int zs.length)) s := by
  unfold fLen; simp only [h, Option.bind_some, lenD]
@[simp] theorem q_int : fInt s (.d (.int i)) = .ok (.d (.int i)) s := rfl
@[simp] theorem q_neg : fNeg s (.d (.int i)) = .ok (.d (.int (-i))) s := rfl
end
/-! ### the combinators at a state -/
section
variable {s : S} {e : List Slot} {gl : List MObj} {i j k : Nat} {m a b c : M} {t u : S → Res Bool} {la : S → Res (List D)} {lr : S → Res (List RV)} {p q : S → Res Out} {f g : S → RV → RV → Res RV} {h : S → RV → Res RV} {x : D} {lo hi : S → Res (Option Int)}
@[simp] theorem ap_C : mC x s = .ok (.d x) s := rfl
@[simp] theorem ap_Var : mVar i ⟨e, gl⟩ = (match e[i]? with | some (.val x) => .ok (.d x) ⟨e, gl⟩ | some (.own _) => .ok (.at i) ⟨e, gl⟩ | _ => .stuck) := rfl
@[simp] theorem ap_Leak : mLeak m s = (m s).bind fun r s1 => match leak r s1 with | some (d, s2) => .ok d s2 | none => .stuck := rfl
@[simp] theorem ap_Settle : mSettle m s = (m s).bind fun r s1 => match settle r with | some r' => .ok r' s1 | none => .stuck := rfl
@[simp] theorem ap_Bin : mBin f a b s = (mSettle a s).bind fun x s1 => (b s1).bind fun y s2 => f s2 x y := rfl
@[simp] theorem ap_ANil : mANil s = .ok [] s := rfl
@[simp] theorem ap_ACons : mACons a la s = (mLeak a s).bind fun d s1 => (la s1).bind fun ds s2 => .ok (d :: ds) s2 := rfl
@[simp] theorem ap_Tup : mTup la s = (la s).bind fun ds s1 => if ds.length ≤ sizeLine then .ok (.d (.tup ds)) s1 else .stuck := rfl
@[simp] theorem ap_Lst : mLst la s = (la s).bind fun ds s1 => if ds.length ≤ sizeLine then .ok (.new (.lst ds)) s1 else .stuck := rfl
@[simp] theorem ap_Call {fm : Fm} : mCall fm la s = (la s).bind fun ds s1 => match fm ds s1.gl with | .ok d gl => .ok (.d d) { s1 with gl := gl } | .exc c p gl => .exc c p { s1 with gl := gl } | .stuck => .stuck := rfl
@[simp] theorem ap_Nx : mNx s = .ok .nx s := rfl
@[simp] theorem ap_Seq : mSeq p q s = (match p s with | .ok .nx s1 => q s1 | r => r) := rfl
@[simp] theorem ap_Expr : mExpr m s = (m s).bind fun _ s1 => .ok .nx s1 := rfl
@[simp] theorem ap_Ret : mRet m s = (mLeak m s).bind fun d s1 => .ok (.rt d) s1 := rfl
@[simp] theorem ap_RetN : mRetN s = .ok (.rt .non) s := rfl
@[simp] theorem ap_IfS : mIfS t p q s = (t s).bind fun c s1 => if c = true then p s1 else q s1 := rfl
@[simp] theorem ap_Set : mSet i m s = (m s).bind fun r s1 => match MI.assign i r s1 with | some s2 => .ok .nx s2 | none => .stuck := rfl
@[simp] theorem ap_Brk : mBrk s = .ok .bk s := rfl
@[simp] theorem ap_Cont : mCont s = .ok .ct s := rfl
@[simp] theorem ap_Hold : mHold a s = (a s).bind fun r s1 => match r with | .at i => (match leak (.at i) s1 with | some (d, s2) => .ok (.d d) s2 | none => .stuck) | r => .ok r s1 := by
  unfold mHold
  cases a s <;> rfl
@[simp] theorem ap_RNil : mRNil s = .ok [] s := rfl
@[simp] theorem ap_RCons : mRCons a lr s = (mHold a s).bind fun x s1 => (lr s1).bind fun xs s2 => .ok (x :: xs) s2 := rfl
@[simp] theorem ap_ParN {is : List Nat} : mParN is lr s = (lr s).bind fun rs s1 => match assignAll is rs s1 with | some s2 => .ok .nx s2 | none => .stuck := rfl
@[simp] theorem ap_Unp {is : List Nat} : mUnp is m s = (mLeak m s).bind fun d s1 => match d with | .tup ds => (match assignAll is (ds.map .d) s1 with | some s2 => .ok .nx s2 | none => .stuck) | _ => .stuck := by
  unfold mUnp
  cases mLeak m s <;> rfl
@[simp] theorem ap_NoPart : mNoPart s = .ok none s := rfl
@[simp] theorem ap_Part : mPart m s = (m s).bind fun r s1 => match asInt r with | some i => .ok (some i) s1 | none => .stuck := rfl
@[simp] theorem ap_Slice : mSlice a lo hi s = (mSettle a s).bind fun x s1 => (lo s1).bind fun l s2 => (hi s2).bind fun u s3 => opSl l u s3 x := rfl
@[simp] theorem ap_Fn1 : mFn1 h m s = (m s).bind fun r s1 => h s1 r := rfl
@[simp] theorem ap_Fn2 {o : Int → Int → Int} : mFn2 o la s = (la s).bind fun ds s1 => match ds with | [.int i, .int j] => .ok (.d (.int (o i j))) s1 | _ => .stuck := rfl
@[simp] theorem ap_Tru : mTru m s = (m s).bind fun r s1 => match (asD s1 r).bind truthD with | some b => .ok b s1 | none => .stuck := rfl
@[simp] theorem ap_NotT : mNotT t s = (t s).bind fun b s1 => .ok (!b) s1 := rfl
@[simp] theorem ap_AndT : mAndT t u s = (t s).bind fun c s1 => if c = true then u s1 else .ok false s1 := rfl
@[simp] theorem ap_OrT : mOrT t u s = (t s).bind fun c s1 => if c = true then .ok true s1 else u s1 := rfl
@[simp] theorem ap_If : mIf t a b s = (t s).bind fun c s1 => if c = true then a s1 else b s1 := rfl
@[simp] theorem ap_Bl : mBl m s = (m s).bind fun r s1 => match r with | .d (.bl b) => .ok b s1 | _ => .stuck := rfl
@[simp] theorem ap_AndV : mAndV a b s = (a s).bind fun r s1 => match r with | .d (.bl c) => if c = true then b s1 else .ok (.d (.bl false)) s1 | _ => .stuck := rfl
@[simp] theorem ap_OrV : mOrV a b s = (a s).bind fun r s1 => match r with | .d (.bl c) => if c = true then .ok (.d (.bl true)) s1 else b s1 | _ => .stuck := rfl
@[simp] theorem ap_NotV : mNotV a s = (a s).bind fun r s1 => match r with | .d (.bl c) => .ok (.d (.bl (!c))) s1 | _ => .stuck := rfl
@[simp] theorem ap_Chain : mChain f g a b c s = (mSettle a s).bind fun x s1 => (mSettle b s1).bind fun y s2 => (f s2 x y).bind fun z s3 => match z with | .d (.bl k) => if k = true then (c s3).bind fun w s4 => g s4 y w else .ok (.d (.bl false)) s3 | _ => .stuck := rfl
@[simp] theorem ap_Seqi : iSeq m s = (mLeak m s).bind fun d s1 => match d with | .lst xs => .ok xs s1 | .tup xs => .ok xs s1 | .scr xs => .ok xs s1 | _ => .stuck := rfl
theorem rng1_ok {j : Int} (h0 : 0 ≤ j) (h1 : j ≤ 1000000) : rng1 j = some (rangeD 0 j.toNat) := (rng1_eq j).trans (if_pos ⟨by omega, by omega⟩)
theorem rng1_nat {n : Nat} (h1 : n ≤ 1000000) : rng1 (n : Int) = some (rangeD 0 n) := rng1_ok (by omega) (by omega)
theorem rng2_ok {i j : Int} (h0 : -1000000 ≤ i) (h1 : i ≤ 1000000) (h2 : -1000000 ≤ j) (h3 : j ≤ 1000000) : rng2 i j = some (rangeD i (j - i).toNat) := (rng2_eq i j).trans (if_pos ⟨by omega, by omega, by omega, by omega⟩)
def optR {α : Type} (o : Option α) (s : S) : Res α := match o with
  | some l => .ok l s
  | none => .stuck
@[simp] theorem optR_some {α : Type} {l : α} : optR (some l) s = .ok l s := rfl
noncomputable def rngA (ds : List D) : Option (List D) := match ds with
  | [.int j] => rng1 j
  | _ => none
noncomputable def rngB (ds : List D) : Option (List D) := match ds with
  | [.int i, .int j] => rng2 i j
  | _ => none
@[simp] theorem rngA_1 {j : Int} : rngA [.int j] = rng1 j := Eq.trans rfl rfl
@[simp] theorem rngB_2 {i j : Int} : rngB [.int i, .int j] = rng2 i j := Eq.trans rfl rfl
@[simp] theorem ap_Range1 : iRange1 la s = (la s).bind fun ds s1 => optR (rngA ds) s1 := by
  unfold iRange1
  cases la s with
  | ok ds s1 =>
    simp only [Res.bind_ok]
    split
    · rename_i j
      rw [rngA_1]; unfold optR; cases rng1 j <;> rfl
    · rename_i h
      unfold rngA
      split
      · exact absurd rfl (h _)
      · rfl
  | exc c p s1 => rfl
  | stuck => rfl
@[simp] theorem ap_Range2 : iRange2 la s = (la s).bind fun ds s1 => optR (rngB ds) s1 := by
  unfold iRange2
  cases la s with
  | ok ds s1 =>
    simp only [Res.bind_ok]
    split
    · rename_i i j
      rw [rngB_2]; unfold optR; cases rng2 i j <;> rfl
    · rename_i h
      unfold rngB
      split
      · exact absurd rfl (h _ _)
      · rfl
  | exc c p s1 => rfl
  | stuck => rfl
@[simp] theorem ap_For {it : S → Res (List D)} {tg : D → S → Option S} : mFor it tg p s = (it s).bind fun ds s1 => forGo tg p ds s1 := rfl
@[simp] theorem ap_Yes : mYes s = .ok true s := rfl
@[simp] theorem ap_Alloc : mAlloc m s = (m s).bind fun r s1 => match r with | .new o => .ok (.d (.ref s1.gl.length)) { s1 with gl := s1.gl ++ [o] } | _ => .stuck := rfl
@[simp] theorem ap_Comp {vs : List Nat} {it : S → Res (List D)} {tg : D → S → Option S} : mComp vs it tg t m s = (it s).bind fun ds s1 => if noOwn s1.env vs = true then (match compGo vs tg t (mLeak m) ds [] (wipeS s1 vs) with
  | some (acc, s2) => .ok (.new (.lst acc)) { s2 with env := restE s1.env s2.env vs }
  | none => .stuck) else .stuck := rfl
@[simp] theorem ap_Raise {x f : Str} : mRaise x f m s = (mLeak m s).bind fun d s1 => match d with | .int i => if i.natAbs ≤ 1000000 then .exc x (.tup [.str f, .int i]) s1 else .stuck | _ => .stuck := rfl
@[simp] theorem ap_tgName : tgName i x s = MI.assign i (.d x) s := rfl
theorem as_d {x : D} (h : i < e.length) : MI.assign i (.d x) ⟨e, gl⟩ = some ⟨e.set i (.val x), gl⟩ := if_pos h
theorem as_new {o : MObj} (h : i < e.length) : MI.assign i (.new o) ⟨e, gl⟩ = some ⟨e.set i (.own o), gl⟩ := if_pos h
@[simp] theorem asA_nil : assignAll [] [] s = some s := rfl
@[simp] theorem asA_cons {r : RV} {is : List Nat} {rs : List RV} : assignAll (i :: is) (r :: rs) s = (match MI.assign i r s with | some s1 => assignAll is rs s1 | none => none) := rfl
@[simp] theorem ap_SetIx {v o ix : M} : mSetIx v o ix s = (mLeak v s).bind fun d s1 => (o s1).bind fun r s2 => match locOf r with
  | some l => (match cellOf s2 l with
    | some _ => (mLeak ix s2).bind fun k s3 => (match cellOf s3 l, k with
      | some (.lst xs), .int k => (match ixN xs.length k with
        | some j => .ok .nx (setCell s3 l (.lst (xs.set j d)))
        | none => .stuck)
      | _, _ => .stuck)
    | _ => .stuck)
  | none => .stuck := rfl
@[simp] theorem ap_Lm1 {fn : List D → D → Option (D × List D)} : mLm1 fn a b s = (a s).bind fun r s1 => match locOf r with
  | some l => (match cellOf s1 l with
    | some (.lst _) => (mLeak b s1).bind fun d s2 => (match cellOf s2 l with
      | some (.lst xs) => (match fn xs d with
        | some (x, ys) => .ok (.d x) (setCell s2 l (.lst ys))
        | none => .stuck)
      | _ => .stuck)
    | _ => .stuck)
  | none => .stuck := rfl
@[simp] theorem cell_gl {n : Nat} : cellOf ⟨e, gl⟩ (.gl n) = gl[n]? := rfl
@[simp] theorem cell_slot {n : Nat} : cellOf ⟨e, gl⟩ (.sl n) = (match e[n]? with | some (.own o) => some o | _ => none) := rfl
@[simp] theorem setCell_gl {n : Nat} {o : MObj} : setCell ⟨e, gl⟩ (.gl n) o = ⟨e, gl.set n o⟩ := rfl
@[simp] theorem setCell_sl {n : Nat} {o : MObj} : setCell ⟨e, gl⟩ (.sl n) o = ⟨e.set n (.own o), gl⟩ := rfl
end
@[simp] theorem forGo_nil {t : D → S → Option S} {p : S → Res Out} {s : S} : forGo t p [] s = .ok .nx s := rfl
theorem forGo_cons {t : D → S → Option S} {p : S → Res Out} {s : S} {d : D} {ds : List D} : forGo t p (d :: ds) s = (match t d s with
    | none => .stuck
    | some s1 => match p s1 with
      | .ok .nx s2 => forGo t p ds s2
      | .ok .ct s2 => forGo t p ds s2
      | .ok .bk s2 => .ok .nx s2
      | r => r) := rfl
theorem mDef_ok {n N : Nat} {body : S → Res Out} {ds : List D} {gl gl' : List MObj} {d : D} {e : List Slot} (hl : ds.length = n) (h : body ⟨ds.map Slot.val ++ List.replicate (N - n) Slot.none, gl⟩ = .ok (.rt d) ⟨e, gl'⟩) : mDef n N body ds gl = .ok d gl' := by
  unfold mDef
  rw [if_pos hl, h]
theorem mDef_exc {n N : Nat} {body : S → Res Out} {ds : List D} {gl gl' : List MObj} {c : Str} {p : D} {e : List Slot} (hl : ds.length = n) (h : body ⟨ds.map Slot.val ++ List.replicate (N - n) Slot.none, gl⟩ = .exc c p ⟨e, gl'⟩) : mDef n N body ds gl = .exc c p gl' := by
  unfold mDef
  rw [if_pos hl, h]
/-! ### lists of ints -/
abbrev IL (l : List Int) : List D := l.map D.int
theorem szN (n : Nat) (h : n ≤ 1000000) : n ≤ sizeLine := by rw [sizeLine_eq]; omega
@[simp] theorem sz0 : 0 ≤ sizeLine := Nat.zero_le _
@[simp] theorem sz1 : 1 ≤ sizeLine := szN _ (by omega)
@[simp] theorem sz1' : 1 < sizeLine := by rw [sizeLine_eq]; omega
@[simp] theorem sz2 : 2 ≤ sizeLine := szN _ (by omega)
@[simp] theorem sz3 : 3 ≤ sizeLine := szN _ (by omega)
@[simp] theorem sz4 : 4 ≤ sizeLine := szN _ (by omega)
@[simp] theorem sz5 : 5 ≤ sizeLine := szN _ (by omega)
@[simp] theorem sz6 : 6 ≤ sizeLine := szN _ (by omega)
section
variable {s : S} {a b : List Int} {i j : Int}
theorem q_addI (h : a.length + b.length ≤ 1000000) : opAdd s (.d (.tup (IL a))) (.d (.tup (IL b))) = .ok (.d (.tup (IL (a ++ b)))) s := by
  rw [q_addT (szN _ (by simpa using h))]
  simp
theorem q_addIL (h : a.length + b.length ≤ 1000000) {x y : RV} (hx : asLst s x = some (IL a)) (hy : asLst s y = some (IL b)) : opAdd s x y = .ok (.new (.lst (IL (a ++ b)))) s := by
  rw [q_addL hx hy (szN _ (by simpa using h))]
  simp
theorem q_shl (h : 0 ≤ j) (h1 : j ≤ 1000000) (h2 : i.natAbs < 2 ^ 64) : opShl s (.d (.int i)) (.d (.int j)) = .ok (.d (.int (i * 2 ^ j.toNat))) s := by
  have c : cPow i j = true := by
    unfold cPow
    rw [decide_eq_true h, decide_eq_true h1, decide_eq_true h2]
    rfl
  simp only [opShl, fI, asInt, c, if_true]
theorem atI_il {d : Int} (h0 : 0 ≤ i) (h : a[i.toNat]? = some d) : atI (IL a) i = some (.int d) := by
  have hl : i.toNat < a.length := (List.getElem?_eq_some_iff.mp h).1
  unfold atI ixN
  rw [if_pos h0, if_pos (by rw [List.length_map]; omega)]
  show (IL a)[i.toNat]? = _
  rw [List.getElem?_map, h]
  rfl
theorem cut_il {lo hi : Option Int} : cut (IL a) lo hi = IL (cut a lo hi) := by
  unfold cut
  rw [List.length_map, ← List.map_drop, ← List.map_take]
theorem q_slT {lo hi : Option Int} : opSl lo hi s (.d (.tup (IL a))) = .ok (.d (.tup (IL (cut a lo hi)))) s := by
  unfold opSl
  simp only [asTup, cut_il]
theorem cut_lo {α : Type} {xs : List α} {k : Nat} (h : k ≤ xs.length) : cut xs (some (k : Int)) none = xs.drop k := by
  unfold cut HT.sIx
  have e : ¬ ((k : Int) < 0) := by omega
  simp only [e, if_false, Int.toNat_natCast, Nat.min_eq_left h]
  rw [List.take_of_length_le]
  simp
theorem cut_hi {α : Type} {xs : List α} {k : Nat} (h : k ≤ xs.length) : cut xs none (some (k : Int)) = xs.take k := by
  unfold cut HT.sIx
  have e : ¬ ((k : Int) < 0) := by omega
  simp only [e, if_false, Int.toNat_natCast, Nat.min_eq_left h, List.drop_zero, Nat.sub_zero]
theorem cut_lohi {α : Type} {xs : List α} {k m : Nat} (h : k ≤ m) (h2 : m ≤ xs.length) : cut xs (some (k : Int)) (some (m : Int)) = (xs.drop k).take (m - k) := by
  unfold cut HT.sIx
  have e : ¬ ((k : Int) < 0) := by omega
  have e2 : ¬ ((m : Int) < 0) := by omega
  simp only [e, e2, if_false, Int.toNat_natCast, Nat.min_eq_left (Nat.le_trans h h2), Nat.min_eq_left h2]
end
@[simp] theorem sz0' : 0 < sizeLine := by rw [sizeLine_eq]; omega
@[simp] theorem sz2' : 2 < sizeLine := by rw [sizeLine_eq]; omega
@[simp] theorem sz3' : 3 < sizeLine := by rw [sizeLine_eq]; omega
@[simp] theorem sz4' : 4 < sizeLine := by rw [sizeLine_eq]; omega
@[simp] theorem sz5' : 5 < sizeLine := by rw [sizeLine_eq]; omega
/-! ### comprehensions over one name -/
inductive All2 {α β : Type} (R : α → β → Prop) : List α → List β → Prop
  | nil : All2 R [] []
  | cons {a : α} {b : β} {as : List α} {bs : List β} : R a b → All2 R as bs → All2 R (a :: as) (b :: bs)
section
variable {v : Nat} {e : M} {env : List Slot} {gl : List MObj}
theorem restE_one (hv : v < env.length) : restE env (env.set v .none) [v] = env := by
  show ((env.set v Slot.none).set v ((env[v]?).getD .none)) = env
  rw [List.set_set, List.getElem?_eq_getElem hv]
  simp
theorem set_none_set {x : Slot} : (env.set v x).set v .none = env.set v .none := List.set_set ..
theorem compGo_inv {P : List MObj → Prop} {R : D → D → Prop} (hv : v < env.length) : ∀ (ds acc : List D) (gl : List MObj), P gl → acc.length + ds.length ≤ sizeLine →
    (∀ d ∈ ds, ∀ gl, P gl → ∃ y gl', mLeak e ⟨env.set v (.val d), gl⟩ = .ok y ⟨env.set v (.val d), gl'⟩ ∧ P gl' ∧ R d y) →
    ∃ ys gl', compGo [v] (tgName v) mYes (mLeak e) ds acc ⟨env.set v .none, gl⟩ = some (acc ++ ys, ⟨env.set v .none, gl'⟩) ∧ P gl' ∧ All2 R ds ys
  | [], acc, gl, hP, _, _ => ⟨[], gl, by simp [compGo], hP, .nil⟩
  | d :: ds, acc, gl, hP, hl, he => by
    obtain ⟨y, gl1, e1, P1, R1⟩ := he d List.mem_cons_self gl hP
    have hl' : acc.length < sizeLine := by simp only [List.length_cons] at hl; omega
    obtain ⟨ys, gl2, e2, P2, R2⟩ := compGo_inv hv ds (acc ++ [y]) gl1 P1 (by simp only [List.length_append, List.length_cons, List.length_nil] at hl ⊢; omega) fun d' m => he d' (List.mem_cons_of_mem _ m)
    refine ⟨y :: ys, gl2, ?_, P2, .cons R1 R2⟩
    have ta : tgName v d ⟨env.set v .none, gl⟩ = some ⟨env.set v (.val d), gl⟩ := by
      rw [ap_tgName, as_d (by simpa using hv), List.set_set]
    unfold compGo
    rw [ta]
    simp only [ap_Yes, if_true, e1, hl']
    show compGo [v] (tgName v) mYes (mLeak e) ds (acc ++ [y]) ⟨(env.set v (.val d)).set v .none, gl1⟩ = _
    rw [List.set_set, e2]
    simp
theorem comp_inv {P : List MObj → Prop} {R : D → D → Prop} {it : S → Res (List D)} {s0 : S} {ds : List D} (hi : it s0 = .ok ds ⟨env, gl⟩) (hv : v < env.length) (ho : noOwn env [v] = true) (hP : P gl) (hl : ds.length ≤ sizeLine)
    (he : ∀ d ∈ ds, ∀ gl, P gl → ∃ y gl', mLeak e ⟨env.set v (.val d), gl⟩ = .ok y ⟨env.set v (.val d), gl'⟩ ∧ P gl' ∧ R d y) :
    ∃ ys gl', mComp [v] it (tgName v) mYes e s0 = .ok (.new (.lst ys)) ⟨env, gl'⟩ ∧ P gl' ∧ All2 R ds ys := by
  obtain ⟨ys, gl', h1, h2, h3⟩ := compGo_inv hv ds [] gl hP (by simpa using hl) he
  refine ⟨ys, gl', ?_, h2, h3⟩
  rw [ap_Comp, hi, Res.bind_ok, if_pos ho]
  show (match compGo [v] (tgName v) mYes (mLeak e) ds [] ⟨env.set v .none, gl⟩ with | some (acc, s2) => Res.ok (RV.new (.lst acc)) ⟨restE env s2.env [v], s2.gl⟩ | none => .stuck) = _
  rw [h1]
  show Res.ok (RV.new (.lst ([] ++ ys))) (⟨restE env (env.set v .none) [v], gl'⟩ : S) = _
  rw [restE_one hv, List.nil_append]
theorem forall2_map {g : D → D} : ∀ {ds ys : List D}, All2 (fun d y => y = g d) ds ys → ys = ds.map g
  | _, _, .nil => rfl
  | _, _, .cons h t => by rw [h, forall2_map t]; rfl
theorem comp_map {it : S → Res (List D)} {s0 : S} {ds : List D} {g : D → D} (hi : it s0 = .ok ds ⟨env, gl⟩) (hv : v < env.length) (ho : noOwn env [v] = true) (hl : ds.length ≤ sizeLine)
    (he : ∀ d ∈ ds, mLeak e ⟨env.set v (.val d), gl⟩ = .ok (g d) ⟨env.set v (.val d), gl⟩) :
    mComp [v] it (tgName v) mYes e s0 = .ok (.new (.lst (ds.map g))) ⟨env, gl⟩ := by
  obtain ⟨ys, gl', h1, h2, h3⟩ := comp_inv (P := fun z => z = gl) (R := fun d y => y = g d) hi hv ho rfl hl fun d m z hz => ⟨g d, gl, by rw [hz]; exact he d m, rfl, rfl⟩
  rw [h1, h2, forall2_map h3]
theorem rangeD_map (lo : Int) : ∀ n : Nat, rangeD lo n = (List.range n).map fun (k : Nat) => D.int (lo + (k : Int))
  | 0 => rfl
  | n + 1 => by
    rw [rangeD, rangeD_map (lo + 1) n, List.range_succ_eq_map, List.map_cons, List.map_map]
    have e0 : lo + ((0 : Nat) : Int) = lo := by omega
    rw [e0]
    congr 1
    refine List.map_congr_left fun k _ => ?_
    show D.int (lo + 1 + (k : Int)) = D.int (lo + ((k + 1 : Nat) : Int))
    congr 1
    omega
theorem rangeD_length (lo : Int) : ∀ n : Nat, (rangeD lo n).length = n
  | 0 => rfl
  | n + 1 => by rw [rangeD, List.length_cons, rangeD_length]
end
section
variable {s : S} {xs : List D} {n : Nat} {e : List Slot} {gl : List MObj}
@[simp] theorem q_listT : fList s (.d (.tup xs)) = .ok (.new (.lst xs)) s := rfl
@[simp] theorem q_listL : fList s (.d (.lst xs)) = .ok (.new (.lst xs)) s := rfl
@[simp] theorem q_listN : fList s (.new (.lst xs)) = .ok (.new (.lst xs)) s := rfl
@[simp] theorem q_tupT : fTuple s (.d (.tup xs)) = .ok (.d (.tup xs)) s := rfl
@[simp] theorem q_tupL : fTuple s (.d (.lst xs)) = .ok (.d (.tup xs)) s := rfl
@[simp] theorem q_tupN : fTuple s (.new (.lst xs)) = .ok (.d (.tup xs)) s := rfl
@[simp] theorem q_lenD : fLen s (.d (.lst xs)) = .ok (.d (.int xs.length)) s := rfl
@[simp] theorem q_lenN : fLen s (.new (.lst xs)) = .ok (.d (.int xs.length)) s := rfl
end
/-! ### loops by an invariant -/
theorem for_inv {t : D → S → Option S} {p : S → Res Out} {Inv : S → Prop} : ∀ (ds : List D) (s : S), Inv s → (∀ d ∈ ds, ∀ s, Inv s → ∃ s1 s2, t d s = some s1 ∧ p s1 = .ok .nx s2 ∧ Inv s2) → ∃ s', forGo t p ds s = .ok .nx s' ∧ Inv s'
  | [], s, h, _ => ⟨s, rfl, h⟩
  | d :: ds, s, h, hp => by
    obtain ⟨s1, s2, h1, h2, h3⟩ := hp d List.mem_cons_self s h
    obtain ⟨s', h4, h5⟩ := for_inv ds s2 h3 fun d' m => hp d' (List.mem_cons_of_mem _ m)
    exact ⟨s', by rw [forGo_cons, h1]; simp only [h2]; exact h4, h5⟩
theorem seq_nx {a b : S → Res Out} {s s1 : S} (h : a s = .ok .nx s1) : mSeq a b s = b s1 := by rw [ap_Seq, h]
theorem mem_rangeD {lo : Int} {n : Nat} {d : D} (h : d ∈ rangeD lo n) : ∃ k : Nat, k < n ∧ d = .int (lo + k) := by
  rw [rangeD_map] at h
  obtain ⟨k, hk, rfl⟩ := List.mem_map.mp h
  exact ⟨k, List.mem_range.mp hk, rfl⟩
theorem set_parts {α : Type} (l : List α) (k : Nat) (b : α) (h : k < l.length) : l.take k ++ [b] ++ l.drop (k + 1) = l.set k b := by
  rw [List.set_eq_take_append_cons_drop, if_pos h]
  simp
@[simp] theorem ap_TryX {x f : Str} {i j : Nat} {b : S → Res Out} {s : S} : mTryX x i j f b s = (match b s with
  | .exc c p s1 => (match tbOne x c with
    | some true => (match p with
      | .tup [.str f', q] => if f' = f ∧ i ≠ j ∧ i < s1.env.length then (match MI.assign j (.d q) { s1 with env := s1.env.set i .none } with
        | some s2 => .ok .nx s2
        | none => .stuck) else .stuck
      | _ => .stuck)
    | some false => .exc c p s1
    | none => .stuck)
  | r => r) := rfl
@[simp] theorem tb_same {x : Str} : tbOne x x = some true := if_pos rfl
end MI
/-! # More equations to run mirrors -/
namespace MI
open PySem L2
section
variable {e : List Slot} {gl : List MObj} {s : S} {o a m : M} {i : Nat}
@[simp] theorem ap_Lm0 {f : List D → Option (D × List D)} : mLm0 f o s = (o s).bind fun r s1 => match locOf r with
  | some l => (match cellOf s1 l with
    | some (.lst xs) => (match f xs with
      | some (x, ys) => .ok (.d x) (setCell s1 l (.lst ys))
      | none => .stuck)
    | _ => .stuck)
  | none => .stuck := rfl
@[simp] theorem ap_Sm1 {f : Str → D → Option D} : mSm1 f o a s = (mLeak o s).bind fun d s1 => match d with
  | .str x => (mLeak a s1).bind fun y s2 => (match f x y with
    | some z => .ok (.d z) s2
    | none => .stuck)
  | _ => .stuck := rfl
@[simp] theorem ap_Aug {f : Int → Int → Int} : mAug i f m s = (match s.env[i]? with
  | some (.val (.int a)) => (m s).bind fun r s1 => (match asInt r with
    | some b => (match MI.assign i (.d (.int (f a b))) s1 with
      | some s2 => .ok .nx s2
      | none => .stuck)
    | none => .stuck)
  | _ => .stuck) := rfl
@[simp] theorem ap_StrM : iStrM m s = (mLeak m s).bind fun d s1 => match d with
  | .str x => .ok (signs x) s1
  | _ => .stuck := rfl
end
@[simp] theorem lk_at {n : Nat} {e : List Slot} {gl : List MObj} : leak (.at n) ⟨e, gl⟩ = (match e[n]? with | some (.own o) => (frzO o).map fun d => (d, (⟨e.set n (.val d), gl⟩ : S)) | _ => none) := rfl
@[simp] theorem fPop_snoc (xs : List D) (x : D) : fPop (xs ++ [x]) = some (x, xs) := by
  unfold fPop
  rw [List.length_append, List.length_singleton, Nat.add_sub_cancel, List.getElem?_append_right (Nat.le_refl _)]
  simp
theorem fApp_ok (xs : List D) (x : D) (h : xs.length < 1000000) : fAppend xs x = some (.non, xs ++ [x]) := by
  unfold fAppend
  rw [if_pos (by rw [sizeLine_eq]; omega)]
theorem fExt_lst (xs ys : List D) (h : xs.length + ys.length ≤ 1000000) : fExtendA xs (.lst ys) = some (.non, xs ++ ys) := by
  unfold fExtendA
  simp only
  rw [if_pos (szN _ h)]
theorem fExt_tup (xs ys : List D) (h : xs.length + ys.length ≤ 1000000) : fExtendA xs (.tup ys) = some (.non, xs ++ ys) := by
  unfold fExtendA
  simp only
  rw [if_pos (szN _ h)]
/-- a while by its steps -/
theorem wh_stop {t : S → Res Bool} {l : S → Res Out} {s s' : S} (h : t s = .ok false s') : ∃ N, whileGo t l N s = .ok .nx s' := by
  refine ⟨1, ?_⟩
  unfold whileGo
  rw [h]
  simp
theorem wh_step {t : S → Res Bool} {l : S → Res Out} {s s1 s2 : S} {r : Res Out} (h : t s = .ok true s1) (h2 : l s1 = .ok .nx s2) (h3 : ∃ N, whileGo t l N s2 = r) : ∃ N, whileGo t l N s = r := by
  obtain ⟨N, h3⟩ := h3
  refine ⟨N + 1, ?_⟩
  unfold whileGo
  rw [h]
  simp only [Res.bind_ok, if_true, h2]
  exact h3
theorem wh_exc {t : S → Res Bool} {l : S → Res Out} {s s1 s2 : S} {c : Str} {p : D} (h : t s = .ok true s1) (h2 : l s1 = .exc c p s2) : ∃ N, whileGo t l N s = .exc c p s2 := by
  refine ⟨1, ?_⟩
  unfold whileGo
  rw [h]
  simp only [Res.bind_ok, if_true, h2]
theorem wh_done {t : S → Res Bool} {l : S → Res Out} {s : S} {r : Res Out} (h : ∃ N, whileGo t l N s = r) (hr : r ≠ .stuck) : mWhile t l s = r := by
  obtain ⟨N, h⟩ := h
  exact mWhile_eq h hr
end MI
namespace MI
open PySem L2
/-- a comprehension over l told by a, of the values b -/
theorem compGo_map {ι : Type} {v : Nat} {e : M} {env : List Slot} {gl : List MObj} (hv : v < env.length) (a b : ι → D) : ∀ (l : List ι) (acc : List D), acc.length + l.length ≤ sizeLine →
    (∀ i ∈ l, mLeak e ⟨env.set v (.val (a i)), gl⟩ = .ok (b i) ⟨env.set v (.val (a i)), gl⟩) →
    compGo [v] (tgName v) mYes (mLeak e) (l.map a) acc ⟨env.set v .none, gl⟩ = some (acc ++ l.map b, ⟨env.set v .none, gl⟩)
  | [], acc, _, _ => by simp [compGo]
  | i :: l, acc, hl, he => by
    have e1 := he i List.mem_cons_self
    have hl' : acc.length < sizeLine := by simp only [List.length_cons] at hl; omega
    have e2 := compGo_map hv a b l (acc ++ [b i]) (by simp only [List.length_append, List.length_cons, List.length_nil] at hl ⊢; omega) fun j m => he j (List.mem_cons_of_mem _ m)
    have ta : tgName v (a i) ⟨env.set v .none, gl⟩ = some ⟨env.set v (.val (a i)), gl⟩ := by
      rw [ap_tgName, as_d (by simpa using hv), List.set_set]
    rw [List.map_cons]
    unfold compGo
    rw [ta]
    simp only [ap_Yes, if_true, e1, hl']
    show compGo [v] (tgName v) mYes (mLeak e) (l.map a) (acc ++ [b i]) ⟨(env.set v (.val (a i))).set v .none, gl⟩ = _
    rw [List.set_set, e2]
    simp
theorem comp_mapI {ι : Type} {v : Nat} {e : M} {env : List Slot} {gl : List MObj} {it : S → Res (List D)} {s0 : S} (l : List ι) (a b : ι → D) (hi : it s0 = .ok (l.map a) ⟨env, gl⟩) (hv : v < env.length) (ho : noOwn env [v] = true) (hl : l.length ≤ 1000000)
    (he : ∀ i ∈ l, mLeak e ⟨env.set v (.val (a i)), gl⟩ = .ok (b i) ⟨env.set v (.val (a i)), gl⟩) :
    mComp [v] it (tgName v) mYes e s0 = .ok (.new (.lst (l.map b))) ⟨env, gl⟩ := by
  have h1 := compGo_map hv a b l [] (by rw [List.length_nil, Nat.zero_add]; exact szN _ hl) he
  rw [ap_Comp, hi, Res.bind_ok, if_pos ho]
  show (match compGo [v] (tgName v) mYes (mLeak e) (l.map a) [] ⟨env.set v .none, gl⟩ with | some (acc, s2) => Res.ok (RV.new (.lst acc)) ⟨restE env s2.env [v], s2.gl⟩ | none => .stuck) = _
  rw [h1]
  show Res.ok (RV.new (.lst ([] ++ l.map b))) (⟨restE env (env.set v .none) [v], gl⟩ : S) = _
  rw [restE_one hv, List.nil_append]
end MI
namespace MI
open PySem L2
section
variable {e : List Slot} {gl : List MObj} {s : S} {o a d k v m : M}
@[simp] theorem ap_UnpT {t : D → S → Option S} : mUnpT t m s = (mLeak m s).bind fun d s1 => match t d s1 with
  | some s2 => .ok .nx s2
  | none => .stuck := rfl
@[simp] theorem ap_DNew : mDNew s = .ok (.new (.dic [])) s := rfl
@[simp] theorem ap_DGet : mDGet d k s = (mSettle d s).bind fun r s1 => (mLeak k s1).bind fun y s2 => match asDic s2 r, keyOf y with
  | some kvs, some k => (match dval kvs k with
    | some x => .ok (.d x) s2
    | none => .stuck)
  | _, _ => .stuck := rfl
@[simp] theorem ap_DPut : mDPut v o k s = (mLeak v s).bind fun d s1 => (o s1).bind fun r s2 => match locOf r with
  | some l => (match cellOf s2 l with
    | some _ => (mLeak k s2).bind fun y s3 => (match cellOf s3 l, keyOf y with
      | some (.dic kvs), some k => if kvs.length < sizeLine then .ok .nx (setCell s3 l (.dic (dput kvs k d))) else .stuck
      | _, _ => .stuck)
    | _ => .stuck)
  | none => .stuck := rfl
@[simp] theorem ap_DGet2 {x : M} : mDGet2 d k x s = (mSettle d s).bind fun r s1 => match asDic s1 r with
  | some _ => (mLeak k s1).bind fun y s2 => (mLeak x s2).bind fun z s3 => (match asDic s3 r, keyOf y with
    | some kvs, some k => .ok (.d ((dval kvs k).getD z)) s3
    | _, _ => .stuck)
  | none => .stuck := rfl
noncomputable def rngC : List D → Option (List D)
  | [.int i, .int j, .int c] => rng3 i j c
  | _ => none
@[simp] theorem rngC_3 {i j c : Int} : rngC [.int i, .int j, .int c] = rng3 i j c := rfl
@[simp] theorem ap_Range3 {la : S → Res (List D)} : iRange3 la s = (la s).bind fun ds s1 => optR (rngC ds) s1 := by
  unfold iRange3
  cases la s with
  | ok ds s1 =>
    simp only [Res.bind_ok]
    split
    · rename_i i j c
      rw [rngC_3]; unfold optR; cases rng3 i j c <;> rfl
    · rename_i h
      unfold rngC
      split
      · exact absurd rfl (h _ _ _)
      · rfl
  | exc c p s1 => rfl
  | stuck => rfl
@[simp] theorem ap_tgT_tup {ts : List D → S → Option S} {ds : List D} : tgT ts (.tup ds) s = ts ds s := rfl
@[simp] theorem ap_tgT_lst {ts : List D → S → Option S} {ds : List D} : tgT ts (.lst ds) s = ts ds s := rfl
@[simp] theorem ap_tgs_nil : tgsNil [] s = some s := rfl
@[simp] theorem ap_tgs_cons {t : D → S → Option S} {ts : List D → S → Option S} {x : D} {ds : List D} : tgsCons t ts (x :: ds) s = (match t x s with
  | some s1 => ts ds s1
  | none => none) := rfl
@[simp] theorem ap_tgTup {is : List Nat} {ds : List D} : tgTup is (.tup ds) s = assignAll is (ds.map .d) s := rfl
@[simp] theorem ap_EnumM {la : S → Res (List D)} : iEnumM la s = (la s).bind fun ds s1 => match ds with
  | [.lst xs] => .ok (enumD 0 xs) s1
  | [.scr xs] => .ok (enumD 0 xs) s1
  | _ => .stuck := rfl
end
theorem cut_lohi' {α : Type} {xs : List α} {k m : Nat} (h : k ≤ m) : cut xs (some (k : Int)) (some (m : Int)) = (xs.drop k).take (m - k) := by
  unfold cut HT.sIx
  have e : ¬ ((k : Int) < 0) := by omega
  have e2 : ¬ ((m : Int) < 0) := by omega
  simp only [e, e2, if_false, Int.toNat_natCast]
  by_cases h1 : k ≤ xs.length
  · rw [Nat.min_eq_left h1]
    by_cases h2 : m ≤ xs.length
    · rw [Nat.min_eq_left h2]
    · rw [Nat.min_eq_right (by omega), List.take_of_length_le (by rw [List.length_drop]; omega), List.take_of_length_le (by rw [List.length_drop]; omega)]
  · rw [Nat.min_eq_right (by omega), Nat.min_eq_right (by omega), List.drop_eq_nil_of_le (Nat.le_refl _), List.drop_eq_nil_of_le (by omega)]
    simp
theorem cut_lo' {α : Type} {xs : List α} {k : Nat} : cut xs (some (k : Int)) none = xs.drop k := by
  unfold cut HT.sIx
  have e : ¬ ((k : Int) < 0) := by omega
  simp only [e, if_false, Int.toNat_natCast]
  by_cases h1 : k ≤ xs.length
  · rw [Nat.min_eq_left h1, List.take_of_length_le]
    rw [List.length_drop]
    omega
  · rw [Nat.min_eq_right (by omega), List.drop_eq_nil_of_le (Nat.le_refl _), List.drop_eq_nil_of_le (by omega)]
    simp
/-- a comprehension with a condition -/
theorem compGo_flt {ι : Type} {v : Nat} {e : M} {cond : S → Res Bool} {env : List Slot} {gl : List MObj} (hv : v < env.length) (a b : ι → D) (p : ι → Bool) : ∀ (l : List ι) (acc : List D), acc.length + l.length ≤ sizeLine →
    (∀ i ∈ l, cond ⟨env.set v (.val (a i)), gl⟩ = .ok (p i) ⟨env.set v (.val (a i)), gl⟩ ∧ (p i = true → mLeak e ⟨env.set v (.val (a i)), gl⟩ = .ok (b i) ⟨env.set v (.val (a i)), gl⟩)) →
    compGo [v] (tgName v) cond (mLeak e) (l.map a) acc ⟨env.set v .none, gl⟩ = some (acc ++ (l.filter p).map b, ⟨env.set v .none, gl⟩)
  | [], acc, _, _ => by simp [compGo]
  | i :: l, acc, hl, he => by
    obtain ⟨c1, e1⟩ := he i List.mem_cons_self
    have hl' : acc.length < sizeLine := by simp only [List.length_cons] at hl; omega
    have ta : tgName v (a i) ⟨env.set v .none, gl⟩ = some ⟨env.set v (.val (a i)), gl⟩ := by
      rw [ap_tgName, as_d (by simpa using hv), List.set_set]
    rw [List.map_cons]
    unfold compGo
    rw [ta]
    simp only [c1]
    by_cases h : p i = true
    · have e2 := compGo_flt hv a b p l (acc ++ [b i]) (by simp only [List.length_append, List.length_cons, List.length_nil] at hl ⊢; omega) fun j m => he j (List.mem_cons_of_mem _ m)
      simp only [h, if_true, e1 h, hl']
      show compGo [v] (tgName v) cond (mLeak e) (l.map a) (acc ++ [b i]) ⟨(env.set v (.val (a i))).set v .none, gl⟩ = _
      rw [List.set_set, e2, List.filter_cons_of_pos h]
      simp
    · have e2 := compGo_flt hv a b p l acc (by simp only [List.length_cons] at hl ⊢; omega) fun j m => he j (List.mem_cons_of_mem _ m)
      simp only [h, if_false]
      show compGo [v] (tgName v) cond (mLeak e) (l.map a) acc ⟨(env.set v (.val (a i))).set v .none, gl⟩ = _
      rw [List.set_set, e2, List.filter_cons_of_neg h]
theorem comp_flt {ι : Type} {v : Nat} {e : M} {cond : S → Res Bool} {env : List Slot} {gl : List MObj} {it : S → Res (List D)} {s0 : S} (l : List ι) (a b : ι → D) (p : ι → Bool) (hi : it s0 = .ok (l.map a) ⟨env, gl⟩) (hv : v < env.length) (ho : noOwn env [v] = true) (hl : l.length ≤ 1000000)
    (he : ∀ i ∈ l, cond ⟨env.set v (.val (a i)), gl⟩ = .ok (p i) ⟨env.set v (.val (a i)), gl⟩ ∧ (p i = true → mLeak e ⟨env.set v (.val (a i)), gl⟩ = .ok (b i) ⟨env.set v (.val (a i)), gl⟩)) :
    mComp [v] it (tgName v) cond e s0 = .ok (.new (.lst ((l.filter p).map b))) ⟨env, gl⟩ := by
  have h1 := compGo_flt hv a b p l [] (by rw [List.length_nil, Nat.zero_add]; exact szN _ hl) he
  rw [ap_Comp, hi, Res.bind_ok, if_pos ho]
  show (match compGo [v] (tgName v) cond (mLeak e) (l.map a) [] ⟨env.set v .none, gl⟩ with | some (acc, s2) => Res.ok (RV.new (.lst acc)) ⟨restE env s2.env [v], s2.gl⟩ | none => .stuck) = _
  rw [h1]
  show Res.ok (RV.new (.lst ([] ++ (l.filter p).map b))) (⟨restE env (env.set v .none) [v], gl⟩ : S) = _
  rw [restE_one hv, List.nil_append]
end MI
/-! # Equations to run mirrors of classes -/
namespace MI
open PySem PySem.Spec PyProof.Rows L2
section
variable {s : S} {e : List Slot} {gl : List MObj} {o m : M} {c f : Str} {n i : Nat} {fs : List (Str × D)}
@[simp] theorem insOf_gl : insOf c ⟨e, gl⟩ (.gl n) = (match gl[n]? with | some (.ins c' fs) => if c' = c then some fs else none | _ => none) := rfl
@[simp] theorem locOf_ref : locOf (.d (.ref n)) = some (.gl n) := rfl
@[simp] theorem ap_Fld : mFld c f o s = (o s).bind fun r s1 => match locOf r with
  | some l => (match insOf c s1 l with
    | some fs => (match fs.lookup f with
      | some d => .ok (.d d) s1
      | none => .stuck)
    | none => .stuck)
  | none => .stuck := rfl
@[simp] theorem ap_SetFld : mSetFld c f o m s = (mLeak m s).bind fun d s1 => (o s1).bind fun r s2 => match locOf r with
  | some l => (match insOf c s2 l with
    | some fs => if fs.length < 1000 then .ok .nx (setCell s2 l (.ins c (putD f d fs))) else .stuck
    | none => .stuck)
  | none => .stuck := rfl
@[simp] theorem ap_AugFld {op : Int → Int → Int} : mAugFld c f op o m s = (o s).bind fun r s1 => match locOf r with
  | some l => (match insOf c s1 l with
    | some fs => (match fs.lookup f with
      | some (.int i) => (mLeak m s1).bind fun d s2 => (match d, insOf c s2 l with
        | .int j, some fs2 => if fs2.length < 1000 then .ok .nx (setCell s2 l (.ins c (putD f (.int (op i j)) fs2))) else .stuck
        | _, _ => .stuck)
      | _ => .stuck)
    | none => .stuck)
  | none => .stuck := rfl
@[simp] theorem ap_UnpF {t : List D → S → Option S} : mUnpF t m s = (mLeak m s).bind fun d s1 => match d with
  | .tup ds => (match t ds s1 with
    | some s2 => .ok .nx s2
    | none => .stuck)
  | _ => .stuck := by
  unfold mUnpF
  cases mLeak m s <;> rfl
@[simp] theorem ap_tgFld {d : D} : tgFld c f i d ⟨e, gl⟩ = (match e[i]? with
  | some (.val (.ref n)) => (match insOf c ⟨e, gl⟩ (.gl n) with
    | some fs => if fs.length < 1000 then some (setCell ⟨e, gl⟩ (.gl n) (.ins c (putD f d fs))) else none
    | none => none)
  | _ => none) := rfl
@[simp] theorem ap_Meth {fm : Fm} {a : S → Res (List D)} {mm : Str} : mMeth c mm fm o a s = (o s).bind fun r s1 => match r with
  | .d (.ref n) => (match insOf c s1 (.gl n) with
    | some fs => (match fs.lookup mm with
      | none => (a s1).bind fun ds s2 => (match fm (.ref n :: ds) s2.gl with
        | .ok d gl => .ok (.d d) { s2 with gl := gl }
        | .exc x p gl => .exc x p { s2 with gl := gl }
        | .stuck => .stuck)
      | some _ => .stuck)
    | none => .stuck)
  | _ => .stuck := rfl
@[simp] theorem ap_Make {fm : Fm} {a : S → Res (List D)} : mMake c fm a s = (a s).bind fun ds s1 => match fm (.ref s1.gl.length :: ds) (s1.gl ++ [.ins c []]) with
  | .ok .non gl => .ok (.d (.ref s1.gl.length)) { s1 with gl := gl }
  | .exc x p gl => .exc x p { s1 with gl := gl }
  | _ => .stuck := rfl
end
theorem set_lt {gl : List MObj} {i : Nat} {o : MObj} (h : gl[i]? = some o) : i < gl.length := by
  rcases Nat.lt_or_ge i gl.length with z | z
  · exact z
  · rw [List.getElem?_eq_none z] at h; cases h
theorem set_at {gl : List MObj} {i : Nat} {o o' : MObj} (h : gl[i]? = some o) : (gl.set i o')[i]? = some o' := by
  rw [List.getElem?_set_self (set_lt h)]
theorem atI_get {xs : List D} {k : Nat} {x : D} (h : xs[k]? = some x) : atI xs (k : Int) = some x := by
  have hl := (List.getElem?_eq_some_iff.mp h).1
  unfold atI ixN
  rw [if_pos (by omega), if_pos (by omega)]
  simpa using h
end MI
namespace K21
open PySem PySem.Spec PyProof.Rows L2 MI
abbrev tp (i : Nat) : Stmt := PySem.Challenge.pw_postingstold_k21_whole_cursors_that_skip.main.body.getD i (.Pass ⟨0, 0, 0, 0⟩)
abbrev mt (i j : Nat) : Stmt := inClass (tp i) j
structure Fx (P : Program) (K : PySem.W.Frag) (mg : Str → Option Value) : Prop where
  g_len : mg "len" = none
  x_BadBytes : XcT P K mg "BadBytes" "place"
  d_byte_at : DefM K mg "byte_at" (defArgs (tp 5)) (defBody (tp 5)) (defScope (tp 5))
  v_GROUP : GInt mg "GROUP" 128
  d_number_bytes : DefM K mg "number_bytes" (defArgs (tp 6)) (defBody (tp 6)) (defScope (tp 6))
  d_read_number : DefM K mg "read_number" (defArgs (tp 7)) (defBody (tp 7)) (defScope (tp 7))
  d_numbers_bytes : DefM K mg "numbers_bytes" (defArgs (tp 8)) (defBody (tp 8)) (defScope (tp 8))
  d_read_numbers : DefM K mg "read_numbers" (defArgs (tp 9)) (defBody (tp 9)) (defScope (tp 9))
  d_gaps_of : DefM K mg "gaps_of" (defArgs (tp 10)) (defBody (tp 10)) (defScope (tp 10))
  d_numbers_of : DefM K mg "numbers_of" (defArgs (tp 11)) (defBody (tp 11)) (defScope (tp 11))
  d_gap_bytes : DefM K mg "gap_bytes" (defArgs (tp 12)) (defBody (tp 12)) (defScope (tp 12))
  d_read_gaps : DefM K mg "read_gaps" (defArgs (tp 13)) (defBody (tp 13)) (defScope (tp 13))
  g_range : mg "range" = none
  d_blocks_of : DefM K mg "blocks_of" (defArgs (tp 15)) (defBody (tp 15)) (defScope (tp 15))
  d_block_bytes : DefM K mg "block_bytes" (defArgs (tp 16)) (defBody (tp 16)) (defScope (tp 16))
  g_max : mg "max" = none
  g_min : mg "min" = none
  d_told_of_block : DefM K mg "told_of_block" (defArgs (tp 17)) (defBody (tp 17)) (defScope (tp 17))
  g_tuple : mg "tuple" = none
  d_write_postings : DefM K mg "write_postings" (defArgs (tp 18)) (defBody (tp 18)) (defScope (tp 18))
  d_read_table : DefM K mg "read_table" (defArgs (tp 19)) (defBody (tp 19)) (defScope (tp 19))
  d_read_block : DefM K mg "read_block" (defArgs (tp 20)) (defBody (tp 20)) (defScope (tp 20))
  g_list : mg "list" = none
  d__law_box : DefM K mg "_law_box" (defArgs (tp 24)) (defBody (tp 24)) (defScope (tp 24))
  g_int : mg "int" = none
  d__law_load : DefM K mg "_law_load" (defArgs (tp 25)) (defBody (tp 25)) (defScope (tp 25))
  d__law_draw : DefM K mg "_law_draw" (defArgs (tp 26)) (defBody (tp 26)) (defScope (tp 26))
  g_isinstance : mg "isinstance" = none
  g_str : mg "str" = none
  g_bool : mg "bool" = none
  g_all : mg "all" = none
  d__law_same : DefM K mg "_law_same" (defArgs (tp 27)) (defBody (tp 27)) (defScope (tp 27))
  d__law_postings : DefM K mg "_law_postings" (defArgs (tp 28)) (defBody (tp 28)) (defScope (tp 28))
  d__law_course : DefM K mg "_law_course" (defArgs (tp 29)) (defBody (tp 29)) (defScope (tp 29))
  c_Cursor : L2.Cls K (He.ga K "Cursor")
  n_Cursor__read : NoAttr K (He.ga K "Cursor") "_read"
  d_Cursor_blocks_read : DefMt K "Cursor" "blocks_read" "Cursor.blocks_read" (defArgs (mt 22 10)) (defBody (mt 22 10)) (defScope (mt 22 10))
  n_Cursor__opened : NoAttr K (He.ga K "Cursor") "_opened"
  n_Cursor__least : NoAttr K (He.ga K "Cursor") "_least"
  n_Cursor__data : NoAttr K (He.ga K "Cursor") "_data"
  n_Cursor__table : NoAttr K (He.ga K "Cursor") "_table"
  n_Cursor__block : NoAttr K (He.ga K "Cursor") "_block"
  d_Cursor__postings : DefMt K "Cursor" "_postings" "Cursor._postings" (defArgs (mt 22 2)) (defBody (mt 22 2)) (defScope (mt 22 2))
  d_Cursor_number : DefMt K "Cursor" "number" "Cursor.number" (defArgs (mt 22 4)) (defBody (mt 22 4)) (defScope (mt 22 4))
  d_Cursor_places : DefMt K "Cursor" "places" "Cursor.places" (defArgs (mt 22 5)) (defBody (mt 22 5)) (defScope (mt 22 5))
  d_Cursor__enter : DefMt K "Cursor" "_enter" "Cursor._enter" (defArgs (mt 22 1)) (defBody (mt 22 1)) (defScope (mt 22 1))
  d_Cursor_seek : DefMt K "Cursor" "seek" "Cursor.seek" (defArgs (mt 22 7)) (defBody (mt 22 7)) (defScope (mt 22 7))
  d_Cursor_next : DefMt K "Cursor" "next" "Cursor.next" (defArgs (mt 22 6)) (defBody (mt 22 6)) (defScope (mt 22 6))
  d_Cursor_block_told : DefMt K "Cursor" "block_told" "Cursor.block_told" (defArgs (mt 22 8)) (defBody (mt 22 8)) (defScope (mt 22 8))
  d_Cursor_told_from : DefMt K "Cursor" "told_from" "Cursor.told_from" (defArgs (mt 22 9)) (defBody (mt 22 9)) (defScope (mt 22 9))
  n_Cursor__many : NoAttr K (He.ga K "Cursor") "_many"
  d_Cursor_count : DefMt K "Cursor" "count" "Cursor.count" (defArgs (mt 22 3)) (defBody (mt 22 3)) (defScope (mt 22 3))
  d__law_told : DefM K mg "_law_told" (defArgs (tp 30)) (defBody (tp 30)) (defScope (tp 30))
  d__law_due : DefM K mg "_law_due" (defArgs (tp 31)) (defBody (tp 31)) (defScope (tp 31))
  d_Cursor___init__ : DefMk K mg "Cursor" "Cursor.__init__" (defArgs (mt 22 0)) (defBody (mt 22 0)) (defScope (mt 22 0))
  g_enumerate : mg "enumerate" = none
  g_zip : mg "zip" = none
  g_any : mg "any" = none
  d_law : DefM K mg "law" (defArgs (tp 32)) (defBody (tp 32)) (defScope (tp 32))
noncomputable section
variable {P : Program} {w : World} {K : PySem.W.Frag} {mg : Str → Option Value} {base : Heap}
theorem sc_byte_at : FnScope ["data", "place"] ["data", "place"] (defScope (tp 5)) := sc_of (by decide +kernel)
def b_byte_at : S → Res Out := (mSeq (mIfS (mBl (mBin opGe (mVar 1) (mFn1 fLen (mVar 0)))) (mRaise "BadBytes" "place" (mFn1 fLen (mVar 0))) mNx) (mRet (mBin opIx (mVar 0) (mVar 1))))
def f_byte_at : Fm := mDef 2 2 b_byte_at
theorem F_byte_at (c : Fx P K mg) : FnM P w K mg base 4 "byte_at" ["data", "place"] f_byte_at := by
  refine fnM (N := ["data", "place"]) (m := b_byte_at) c.d_byte_at sc_byte_at (by decide) (fun _ _ _ _ _ _ us hl => match us, hl with | [_, _], _ => rfl) fun f cdv A outer s H E hr => ?_
  have nd := (sc_byte_at).nd
  exact (mss_cons (ms_if (mt_cmp or_ge os_ge (me_var (i := 1)) (me_len (me_var (i := 0)) (by rfl) c.g_len) (nomark _)) (mss_one (ms_raise c.x_BadBytes.xm (hr.mono (by decide)) (by rfl) takesC (by rfl) (me_len (me_var (i := 0)) (by rfl) c.g_len))) mss_nil) (mss_one (ms_ret (me_ix (me_var (i := 0)) (me_var (i := 1))))))
theorem sc_number_bytes : FnScope ["number", "found"] ["number"] (defScope (tp 6)) := sc_of (by decide +kernel)
def t_number_bytes_1 : S → Res Bool := (mBl (mBin opGt (mVar 0) (mC (.int 0))))
def l_number_bytes_2 : S → Res Out := (mSeq (mExpr (mLm1 fAppend (mVar 1) (mBin opMod (mVar 0) (mC (.int 128))))) (mSet 0 (mBin opFdiv (mVar 0) (mC (.int 128)))))
def b_number_bytes : S → Res Out := (mSeq (mSet 1 (mLst (mACons (mBin opAdd (mC (.int 128)) (mBin opMod (mVar 0) (mC (.int 128)))) mANil))) (mSeq (mSet 0 (mBin opFdiv (mVar 0) (mC (.int 128)))) (mSeq (mWhile t_number_bytes_1 l_number_bytes_2) (mRet (mBin opRev (mVar 1) (mFn1 fNeg (mC (.int 1))))))))
def f_number_bytes : Fm := mDef 1 2 b_number_bytes
theorem F_number_bytes (c : Fx P K mg) : FnM P w K mg base 1 "number_bytes" ["number"] f_number_bytes := by
  refine fnM (N := ["number", "found"]) (m := b_number_bytes) c.d_number_bytes sc_number_bytes (by decide) (fun _ _ _ _ _ _ us hl => match us, hl with | [_], _ => rfl) fun f cdv A outer s H E hr => ?_
  have nd := (sc_number_bytes).nd
  exact (mss_cons (ms_set (i := 1) (me_lst (ma_cons (me_add (me_gint c.v_GROUP (by rfl)) (me_mod (me_var (i := 0)) (me_gint c.v_GROUP (by rfl)))) ma_nil)) nd) (mss_cons (ms_set (i := 0) (me_fdiv (me_var (i := 0)) (me_gint c.v_GROUP (by rfl))) nd) (mss_cons (ms_while owns (mt_cmp or_gt os_gt (me_var (i := 0)) me_int (nomark _)) (mss_cons (ms_expr (me_append (me_var (i := 1)) (me_mod (me_var (i := 0)) (me_gint c.v_GROUP (by rfl))))) (mss_one (ms_set (i := 0) (me_fdiv (me_var (i := 0)) (me_gint c.v_GROUP (by rfl))) nd)))) (mss_one (ms_ret (me_rev (me_var (i := 1)) (me_neg me_int)))))))
theorem sc_read_number : FnScope ["data", "place", "found", "byte"] ["data", "place"] (defScope (tp 7)) := sc_of (by decide +kernel)
def t_read_number_1 : S → Res Bool := (mBl (mBin opLt (mVar 3) (mC (.int 128))))
def l_read_number_2 : S → Res Out := (mSeq (mParN [2, 1] (mRCons (mBin opAdd (mBin opMul (mVar 2) (mC (.int 128))) (mVar 3)) (mRCons (mBin opAdd (mVar 1) (mC (.int 1))) mRNil))) (mSet 3 (mCall f_byte_at (mACons (mVar 0) (mACons (mVar 1) mANil)))))
def b_read_number : S → Res Out := (mSeq (mParN [2, 3] (mRCons (mC (.int 0)) (mRCons (mCall f_byte_at (mACons (mVar 0) (mACons (mVar 1) mANil))) mRNil))) (mSeq (mIfS (mBl (mBin (opEq false) (mVar 3) (mC (.int 0)))) (mRaise "BadBytes" "place" (mVar 1)) mNx) (mSeq (mWhile t_read_number_1 l_read_number_2) (mRet (mTup (mACons (mBin opSub (mBin opAdd (mBin opMul (mVar 2) (mC (.int 128))) (mVar 3)) (mC (.int 128))) (mACons (mBin opAdd (mVar 1) (mC (.int 1))) mANil)))))))
def f_read_number : Fm := mDef 2 4 b_read_number
theorem F_read_number (c : Fx P K mg) : FnM P w K mg base 5 "read_number" ["data", "place"] f_read_number := by
  refine fnM (N := ["data", "place", "found", "byte"]) (m := b_read_number) c.d_read_number sc_read_number (by decide) (fun _ _ _ _ _ _ us hl => match us, hl with | [_, _], _ => rfl) fun f cdv A outer s H E hr => ?_
  have nd := (sc_read_number).nd
  exact (mss_cons (ms_par (i := 2) (j := 3) (by rfl) nd (mr_cons me_int (mr_cons (me_fn (F_byte_at c) hr (by decide) (by rfl) takesC (ma_cons (me_var (i := 0)) (ma_cons (me_var (i := 1)) ma_nil))) mr_nil))) (mss_cons (ms_if (mt_cmp (op_eqM hr.units) os_eq (me_var (i := 3)) me_int (nomark _)) (mss_one (ms_raise c.x_BadBytes.xm (hr.mono (by decide)) (by rfl) takesC (by rfl) (me_var (i := 1)))) mss_nil) (mss_cons (ms_while owns (mt_cmp or_lt os_lt (me_var (i := 3)) (me_gint c.v_GROUP (by rfl)) (nomark _)) (mss_cons (ms_par (i := 2) (j := 1) (by rfl) nd (mr_cons (me_add (me_mul (me_var (i := 2)) (me_gint c.v_GROUP (by rfl))) (me_var (i := 3))) (mr_cons (me_add (me_var (i := 1)) me_int) mr_nil))) (mss_one (ms_set (i := 3) (me_fn (F_byte_at c) hr (by decide) (by rfl) takesC (ma_cons (me_var (i := 0)) (ma_cons (me_var (i := 1)) ma_nil))) nd)))) (mss_one (ms_ret (me_tup (ma_cons (me_sub (me_add (me_mul (me_var (i := 2)) (me_gint c.v_GROUP (by rfl))) (me_var (i := 3))) (me_gint c.v_GROUP (by rfl))) (ma_cons (me_add (me_var (i := 1)) me_int) ma_nil))))))))
theorem sc_numbers_bytes : FnScope ["numbers", "found", "number"] ["numbers"] (defScope (tp 8)) := sc_of (by decide +kernel)
def l_numbers_bytes_1 : S → Res Out := (mExpr (mLm1 fExtendA (mVar 1) (mCall f_number_bytes (mACons (mVar 2) mANil))))
def b_numbers_bytes : S → Res Out := (mSeq (mSet 1 (mAlloc (mLst mANil))) (mSeq (mFor (iSeq (mVar 0)) (tgName 2) l_numbers_bytes_1) (mRet (mVar 1))))
def f_numbers_bytes : Fm := mDef 1 3 b_numbers_bytes
theorem F_numbers_bytes (c : Fx P K mg) : FnM P w K mg base 2 "numbers_bytes" ["numbers"] f_numbers_bytes := by
  refine fnM (N := ["numbers", "found", "number"]) (m := b_numbers_bytes) c.d_numbers_bytes sc_numbers_bytes (by decide) (fun _ _ _ _ _ _ us hl => match us, hl with | [_], _ => rfl) fun f cdv A outer s H E hr => ?_
  have nd := (sc_numbers_bytes).nd
  exact (mss_cons (ms_set (i := 1) (me_alloc (me_lst ma_nil)) nd) (mss_cons (ms_for owns (by rfl) (mi_seq (me_var (i := 0))) (mg_name nd) (mss_one (ms_expr (me_extendA (me_var (i := 1)) (me_fn (F_number_bytes c) hr (by decide) (by rfl) takesC (ma_cons (me_var (i := 2)) ma_nil)))))) (mss_one (ms_ret (me_var (i := 1))))))
theorem sc_read_numbers : FnScope ["data", "place", "many", "found", "number"] ["data", "place", "many"] (defScope (tp 9)) := sc_of (by decide +kernel)
def t_read_numbers_1 : S → Res Bool := (mBl (mBin opLt (mFn1 fLen (mVar 3)) (mVar 2)))
def l_read_numbers_2 : S → Res Out := (mSeq (mUnp [4, 1] (mCall f_read_number (mACons (mVar 0) (mACons (mVar 1) mANil)))) (mExpr (mLm1 fAppend (mVar 3) (mVar 4))))
def b_read_numbers : S → Res Out := (mSeq (mSet 3 (mLst mANil)) (mSeq (mWhile t_read_numbers_1 l_read_numbers_2) (mRet (mTup (mACons (mVar 3) (mACons (mVar 1) mANil))))))
def f_read_numbers : Fm := mDef 3 5 b_read_numbers
theorem F_read_numbers (c : Fx P K mg) : FnM P w K mg base 6 "read_numbers" ["data", "place", "many"] f_read_numbers := by
  refine fnM (N := ["data", "place", "many", "found", "number"]) (m := b_read_numbers) c.d_read_numbers sc_read_numbers (by decide) (fun _ _ _ _ _ _ us hl => match us, hl with | [_, _, _], _ => rfl) fun f cdv A outer s H E hr => ?_
  have nd := (sc_read_numbers).nd
  exact (mss_cons (ms_set (i := 3) (me_lst ma_nil) nd) (mss_cons (ms_while owns (mt_cmp or_lt os_lt (me_len (me_var (i := 3)) (by rfl) c.g_len) (me_var (i := 2)) (nomark _)) (mss_cons (ms_unp (by rfl) (me_fn (F_read_number c) hr (by decide) (by rfl) takesC (ma_cons (me_var (i := 0)) (ma_cons (me_var (i := 1)) ma_nil))) (mgs_cons (i := 4) (mgs_cons (i := 1) mgs_nil nd) nd)) (mss_one (ms_expr (me_append (me_var (i := 3)) (me_var (i := 4))))))) (mss_one (ms_ret (me_tup (ma_cons (me_var (i := 3)) (ma_cons (me_var (i := 1)) ma_nil)))))))
theorem sc_gaps_of : FnScope ["numbers", "before", "found", "number"] ["numbers", "before"] (defScope (tp 10)) := sc_of (by decide +kernel)
def l_gaps_of_1 : S → Res Out := (mSeq (mExpr (mLm1 fAppend (mVar 2) (mBin opSub (mBin opSub (mVar 3) (mVar 1)) (mC (.int 1))))) (mSet 1 (mVar 3)))
def b_gaps_of : S → Res Out := (mSeq (mSet 2 (mLst mANil)) (mSeq (mFor (iSeq (mVar 0)) (tgName 3) l_gaps_of_1) (mRet (mVar 2))))
def f_gaps_of : Fm := mDef 2 4 b_gaps_of
theorem F_gaps_of (c : Fx P K mg) : FnM P w K mg base 1 "gaps_of" ["numbers", "before"] f_gaps_of := by
  refine fnM (N := ["numbers", "before", "found", "number"]) (m := b_gaps_of) c.d_gaps_of sc_gaps_of (by decide) (fun _ _ _ _ _ _ us hl => match us, hl with | [_, _], _ => rfl) fun f cdv A outer s H E hr => ?_
  have nd := (sc_gaps_of).nd
  exact (mss_cons (ms_set (i := 2) (me_lst ma_nil) nd) (mss_cons (ms_for owns (by rfl) (mi_seq (me_var (i := 0))) (mg_name nd) (mss_cons (ms_expr (me_append (me_var (i := 2)) (me_sub (me_sub (me_var (i := 3)) (me_var (i := 1))) me_int))) (mss_one (ms_set (i := 1) (me_var (i := 3)) nd)))) (mss_one (ms_ret (me_var (i := 2))))))
theorem sc_numbers_of : FnScope ["gaps", "before", "found", "gap"] ["gaps", "before"] (defScope (tp 11)) := sc_of (by decide +kernel)
def l_numbers_of_1 : S → Res Out := (mSeq (mSet 1 (mBin opAdd (mBin opAdd (mVar 1) (mC (.int 1))) (mVar 3))) (mExpr (mLm1 fAppend (mVar 2) (mVar 1))))
def b_numbers_of : S → Res Out := (mSeq (mSet 2 (mLst mANil)) (mSeq (mFor (iSeq (mVar 0)) (tgName 3) l_numbers_of_1) (mRet (mVar 2))))
def f_numbers_of : Fm := mDef 2 4 b_numbers_of
theorem F_numbers_of (c : Fx P K mg) : FnM P w K mg base 1 "numbers_of" ["gaps", "before"] f_numbers_of := by
  refine fnM (N := ["gaps", "before", "found", "gap"]) (m := b_numbers_of) c.d_numbers_of sc_numbers_of (by decide) (fun _ _ _ _ _ _ us hl => match us, hl with | [_, _], _ => rfl) fun f cdv A outer s H E hr => ?_
  have nd := (sc_numbers_of).nd
  exact (mss_cons (ms_set (i := 2) (me_lst ma_nil) nd) (mss_cons (ms_for owns (by rfl) (mi_seq (me_var (i := 0))) (mg_name nd) (mss_cons (ms_set (i := 1) (me_add (me_add (me_var (i := 1)) me_int) (me_var (i := 3))) nd) (mss_one (ms_expr (me_append (me_var (i := 2)) (me_var (i := 1))))))) (mss_one (ms_ret (me_var (i := 2))))))
theorem sc_gap_bytes : FnScope ["numbers", "before"] ["numbers", "before"] (defScope (tp 12)) := sc_of (by decide +kernel)
def b_gap_bytes : S → Res Out := (mRet (mCall f_numbers_bytes (mACons (mCall f_gaps_of (mACons (mVar 0) (mACons (mVar 1) mANil))) mANil)))
def f_gap_bytes : Fm := mDef 2 2 b_gap_bytes
theorem F_gap_bytes (c : Fx P K mg) : FnM P w K mg base 3 "gap_bytes" ["numbers", "before"] f_gap_bytes := by
  refine fnM (N := ["numbers", "before"]) (m := b_gap_bytes) c.d_gap_bytes sc_gap_bytes (by decide) (fun _ _ _ _ _ _ us hl => match us, hl with | [_, _], _ => rfl) fun f cdv A outer s H E hr => ?_
  have nd := (sc_gap_bytes).nd
  exact (mss_one (ms_ret (me_fn (F_numbers_bytes c) hr (by decide) (by rfl) takesC (ma_cons (me_fn (F_gaps_of c) hr (by decide) (by rfl) takesC (ma_cons (me_var (i := 0)) (ma_cons (me_var (i := 1)) ma_nil))) ma_nil))))
theorem sc_read_gaps : FnScope ["data", "place", "many", "before", "gaps"] ["data", "place", "many", "before"] (defScope (tp 13)) := sc_of (by decide +kernel)
def b_read_gaps : S → Res Out := (mSeq (mUnp [4, 1] (mCall f_read_numbers (mACons (mVar 0) (mACons (mVar 1) (mACons (mVar 2) mANil))))) (mRet (mTup (mACons (mCall f_numbers_of (mACons (mVar 4) (mACons (mVar 3) mANil))) (mACons (mVar 1) mANil)))))
def f_read_gaps : Fm := mDef 4 5 b_read_gaps
theorem F_read_gaps (c : Fx P K mg) : FnM P w K mg base 7 "read_gaps" ["data", "place", "many", "before"] f_read_gaps := by
  refine fnM (N := ["data", "place", "many", "before", "gaps"]) (m := b_read_gaps) c.d_read_gaps sc_read_gaps (by decide) (fun _ _ _ _ _ _ us hl => match us, hl with | [_, _, _, _], _ => rfl) fun f cdv A outer s H E hr => ?_
  have nd := (sc_read_gaps).nd
  exact (mss_cons (ms_unp (by rfl) (me_fn (F_read_numbers c) hr (by decide) (by rfl) takesC (ma_cons (me_var (i := 0)) (ma_cons (me_var (i := 1)) (ma_cons (me_var (i := 2)) ma_nil)))) (mgs_cons (i := 4) (mgs_cons (i := 1) mgs_nil nd) nd)) (mss_one (ms_ret (me_tup (ma_cons (me_fn (F_numbers_of c) hr (by decide) (by rfl) takesC (ma_cons (me_var (i := 4)) (ma_cons (me_var (i := 3)) ma_nil))) (ma_cons (me_var (i := 1)) ma_nil))))))
theorem sc_blocks_of : FnScope ["postings", "block", "at"] ["postings", "block"] (defScope (tp 15)) := sc_of (by decide +kernel)
def e_blocks_of_1 : M := (mSlice (mVar 0) (mPart (mVar 2)) (mPart (mBin opAdd (mVar 2) (mVar 1))))
def b_blocks_of : S → Res Out := (mRet (mComp [2] (iRange3 (mACons (mC (.int 0)) (mACons (mFn1 fLen (mVar 0)) (mACons (mVar 1) mANil)))) (tgName 2) mYes e_blocks_of_1))
def f_blocks_of : Fm := mDef 2 3 b_blocks_of
theorem F_blocks_of (c : Fx P K mg) : FnM P w K mg base 1 "blocks_of" ["postings", "block"] f_blocks_of := by
  refine fnM (N := ["postings", "block", "at"]) (m := b_blocks_of) c.d_blocks_of sc_blocks_of (by decide) (fun _ _ _ _ _ _ us hl => match us, hl with | [_, _], _ => rfl) fun f cdv A outer s H E hr => ?_
  have nd := (sc_blocks_of).nd
  exact (mss_one (ms_ret (me_comp (by rfl) nd (mi_range3 (ma_cons me_int (ma_cons (me_len (me_var (i := 0)) (by rfl) c.g_len) (ma_cons (me_var (i := 1)) ma_nil))) (by rfl) c.g_range) (blk_of (own := [("at", 2)]) (by rfl)) mgk_name (by decide) (fun _ _ _ _ _ => (mg_name nd).pg) (fun _ _ _ _ _ => mts_nil) (fun _ _ _ _ _ => (me_slice (me_var (i := 0)) (mo_some (me_var (i := 2))) (mo_some (me_add (me_var (i := 2)) (me_var (i := 1)))))))))
theorem sc_block_bytes : FnScope ["postings", "before", "found", "_", "places", "number"] ["postings", "before"] (defScope (tp 16)) := sc_of (by decide +kernel)
def l_block_bytes_1 : S → Res Out := (mExpr (mLm1 fExtendA (mVar 2) (mBin opAdd (mCall f_number_bytes (mACons (mFn1 fLen (mVar 4)) mANil)) (mCall f_gap_bytes (mACons (mVar 4) (mACons (mFn1 fNeg (mC (.int 1))) mANil))))))
def b_block_bytes : S → Res Out := (mSeq (mSet 2 (mCall f_gap_bytes (mACons (mComp [5, 3] (iSeq (mVar 0)) (tgTup [5, 3]) mYes (mVar 5)) (mACons (mVar 1) mANil)))) (mSeq (mFor (iSeq (mVar 0)) (tgTup [3, 4]) l_block_bytes_1) (mRet (mVar 2))))
def f_block_bytes : Fm := mDef 2 6 b_block_bytes
theorem F_block_bytes (c : Fx P K mg) : FnM P w K mg base 4 "block_bytes" ["postings", "before"] f_block_bytes := by
  refine fnM (N := ["postings", "before", "found", "_", "places", "number"]) (m := b_block_bytes) c.d_block_bytes sc_block_bytes (by decide) (fun _ _ _ _ _ _ us hl => match us, hl with | [_, _], _ => rfl) fun f cdv A outer s H E hr => ?_
  have nd := (sc_block_bytes).nd
  exact (mss_cons (ms_set (i := 2) (me_fn (F_gap_bytes c) hr (by decide) (by rfl) takesC (ma_cons (me_comp (by rfl) nd (mi_seq (me_var (i := 0))) (blk_of (own := [("number", 5), ("_", 3)]) (by rfl)) mgk_tup (by decide) (fun _ _ _ _ _ => (mg_tup (by rfl) (mgs_cons (i := 5) (mgs_cons (i := 3) mgs_nil nd) nd)).pg) (fun _ _ _ _ _ => mts_nil) (fun _ _ _ _ _ => (me_var (i := 5)))) (ma_cons (me_var (i := 1)) ma_nil))) nd) (mss_cons (ms_for owns (by rfl) (mi_seq (me_var (i := 0))) (mg_tup (by rfl) (mgs_cons (i := 3) (mgs_cons (i := 4) mgs_nil nd) nd)) (mss_one (ms_expr (me_extendA (me_var (i := 2)) (me_add (me_fn (F_number_bytes c) hr (by decide) (by rfl) takesC (ma_cons (me_len (me_var (i := 4)) (by rfl) c.g_len) ma_nil)) (me_fn (F_gap_bytes c) hr (by decide) (by rfl) takesC (ma_cons (me_var (i := 4)) (ma_cons (me_neg me_int) ma_nil)))))))) (mss_one (ms_ret (me_var (i := 2))))))
theorem sc_told_of_block : FnScope ["postings", "lengths", "counts", "_", "places", "number"] ["postings", "lengths"] (defScope (tp 17)) := sc_of (by decide +kernel)
def e_told_of_block_1 : M := (mBin opIx (mVar 1) (mVar 5))
def e_told_of_block_2 : M := (mFn1 fLen (mVar 4))
def b_told_of_block : S → Res Out := (mSeq (mSet 2 (mComp [3, 4] (iSeq (mVar 0)) (tgTup [3, 4]) mYes e_told_of_block_2)) (mRet (mTup (mACons (mBin opIx (mBin opIx (mVar 0) (mFn1 fNeg (mC (.int 1)))) (mC (.int 0))) (mACons (mFn1 (fFold maxL true) (mVar 2)) (mACons (mFn1 (fFold minL true) (mComp [5, 3] (iSeq (mVar 0)) (tgTup [5, 3]) mYes e_told_of_block_1)) mANil))))))
def f_told_of_block : Fm := mDef 2 6 b_told_of_block
theorem F_told_of_block (c : Fx P K mg) : FnM P w K mg base 1 "told_of_block" ["postings", "lengths"] f_told_of_block := by
  refine fnM (N := ["postings", "lengths", "counts", "_", "places", "number"]) (m := b_told_of_block) c.d_told_of_block sc_told_of_block (by decide) (fun _ _ _ _ _ _ us hl => match us, hl with | [_, _], _ => rfl) fun f cdv A outer s H E hr => ?_
  have nd := (sc_told_of_block).nd
  exact (mss_cons (ms_setComp (i := 2) (by rfl) nd (mi_seq (me_var (i := 0))) (blk_of (own := [("_", 3), ("places", 4)]) (by rfl)) mgk_tup (by decide) (fun _ _ _ _ _ => (mg_tup (by rfl) (mgs_cons (i := 3) (mgs_cons (i := 4) mgs_nil nd) nd)).pg) (fun _ _ _ _ _ => mts_nil) (fun _ _ _ _ _ => (me_len (me_var (i := 4)) (by rfl) c.g_len))) (mss_one (ms_ret (me_tup (ma_cons (me_ix (me_ix (me_var (i := 0)) (me_neg me_int)) me_int) (ma_cons (me_maxL (by rfl) (me_var (i := 2)) (by rfl) c.g_max) (ma_cons (me_minL (by rfl) (me_comp (by rfl) nd (mi_seq (me_var (i := 0))) (blk_of (own := [("number", 5), ("_", 3)]) (by rfl)) mgk_tup (by decide) (fun _ _ _ _ _ => (mg_tup (by rfl) (mgs_cons (i := 5) (mgs_cons (i := 3) mgs_nil nd) nd)).pg) (fun _ _ _ _ _ => mts_nil) (fun _ _ _ _ _ => (me_ix (me_var (i := 1)) (me_var (i := 5))))) (by rfl) c.g_min) ma_nil)))))))
theorem sc_write_postings : FnScope ["postings", "lengths", "block", "part", "head", "body", "before", "data", "last", "greatest", "least"] ["postings", "lengths", "block"] (defScope (tp 18)) := sc_of (by decide +kernel)
def l_write_postings_1 : S → Res Out := (mSeq (mUnp [8, 9, 10] (mCall f_told_of_block (mACons (mVar 3) (mACons (mVar 1) mANil)))) (mSeq (mSet 7 (mCall f_block_bytes (mACons (mVar 3) (mACons (mVar 6) mANil)))) (mSeq (mExpr (mExtX (mVar 4) (mCall f_numbers_bytes (mACons (mTup (mACons (mBin opSub (mBin opSub (mVar 8) (mVar 6)) (mC (.int 1))) (mACons (mVar 9) (mACons (mVar 10) (mACons (mFn1 fLen (mVar 7)) mANil))))) mANil)))) (mSeq (mExpr (mExtX (mVar 5) (mVar 7))) (mSet 6 (mVar 8))))))
def b_write_postings : S → Res Out := (mSeq (mParN [4, 5, 6] (mRCons (mCall f_numbers_bytes (mACons (mTup (mACons (mFn1 fLen (mVar 0)) (mACons (mVar 2) mANil))) mANil)) (mRCons (mLst mANil) (mRCons (mFn1 fNeg (mC (.int 1))) mRNil)))) (mSeq (mFor (iSeq (mCall f_blocks_of (mACons (mVar 0) (mACons (mVar 2) mANil)))) (tgName 3) l_write_postings_1) (mRet (mFn1 fTuple (mBin opAdd (mVar 4) (mVar 5))))))
def f_write_postings : Fm := mDef 3 11 b_write_postings
theorem F_write_postings (c : Fx P K mg) : FnM P w K mg base 5 "write_postings" ["postings", "lengths", "block"] f_write_postings := by
  refine fnM (N := ["postings", "lengths", "block", "part", "head", "body", "before", "data", "last", "greatest", "least"]) (m := b_write_postings) c.d_write_postings sc_write_postings (by decide) (fun _ _ _ _ _ _ us hl => match us, hl with | [_, _, _], _ => rfl) fun f cdv A outer s H E hr => ?_
  have nd := (sc_write_postings).nd
  exact (mss_cons (ms_par3 (i := 4) (j := 5) (l := 6) (by rfl) nd (mr_cons (me_fn (F_numbers_bytes c) hr (by decide) (by rfl) takesC (ma_cons (me_tup (ma_cons (me_len (me_var (i := 0)) (by rfl) c.g_len) (ma_cons (me_var (i := 2)) ma_nil))) ma_nil)) (mr_cons (me_lst ma_nil) (mr_cons (me_neg me_int) mr_nil)))) (mss_cons (ms_for owns (by rfl) (mi_seq (me_fn (F_blocks_of c) hr (by decide) (by rfl) takesC (ma_cons (me_var (i := 0)) (ma_cons (me_var (i := 2)) ma_nil)))) (mg_name nd) (mss_cons (ms_unp (by rfl) (me_fn (F_told_of_block c) hr (by decide) (by rfl) takesC (ma_cons (me_var (i := 3)) (ma_cons (me_var (i := 1)) ma_nil))) (mgs_cons (i := 8) (mgs_cons (i := 9) (mgs_cons (i := 10) mgs_nil nd) nd) nd)) (mss_cons (ms_set (i := 7) (me_fn (F_block_bytes c) hr (by decide) (by rfl) takesC (ma_cons (me_var (i := 3)) (ma_cons (me_var (i := 6)) ma_nil))) nd) (mss_cons (ms_expr (me_extX (me_var (i := 4)) (me_fn (F_numbers_bytes c) hr (by decide) (by rfl) takesC (ma_cons (me_tup (ma_cons (me_sub (me_sub (me_var (i := 8)) (me_var (i := 6))) me_int) (ma_cons (me_var (i := 9)) (ma_cons (me_var (i := 10)) (ma_cons (me_len (me_var (i := 7)) (by rfl) c.g_len) ma_nil))))) ma_nil)))) (mss_cons (ms_expr (me_extX (me_var (i := 5)) (me_var (i := 7)))) (mss_one (ms_set (i := 6) (me_var (i := 8)) nd))))))) (mss_one (ms_ret (me_tuple (me_add (me_var (i := 4)) (me_var (i := 5))) (by rfl) c.g_tuple)))))
theorem sc_read_table : FnScope ["data", "table", "place", "rows", "left", "before", "size", "first", "told", "length", "many", "block", "gap", "greatest", "least"] ["data"] (defScope (tp 19)) := sc_of (by decide +kernel)
def l_read_table_1 : S → Res Out := (mSeq (mExpr (mLm1 fAppend (mVar 1) (mTup (mACons (mVar 6) (mACons (mVar 7) (mACons (mVar 8) (mACons (mVar 2) (mACons (mVar 9) mANil)))))))) (mAug 2 (fun a b => a + b) (mVar 9)))
def t_read_table_2 : S → Res Bool := (mBl (mBin opGt (mVar 4) (mC (.int 0))))
def l_read_table_3 : S → Res Out := (mSeq (mUnpT (tgT (tgsCons (tgT (tgsCons (tgName 12) (tgsCons (tgName 13) (tgsCons (tgName 14) (tgsCons (tgName 9) tgsNil))))) (tgsCons (tgName 2) tgsNil))) (mCall f_read_numbers (mACons (mVar 0) (mACons (mVar 2) (mACons (mC (.int 4)) mANil))))) (mSeq (mExpr (mLm1 fAppend (mVar 3) (mTup (mACons (mFn2 minI (mACons (mVar 11) (mACons (mVar 4) mANil))) (mACons (mVar 5) (mACons (mTup (mACons (mBin opAdd (mBin opAdd (mVar 5) (mC (.int 1))) (mVar 12)) (mACons (mVar 13) (mACons (mVar 14) mANil)))) (mACons (mVar 9) mANil))))))) (mParN [4, 5] (mRCons (mBin opSub (mVar 4) (mVar 11)) (mRCons (mBin opAdd (mBin opAdd (mVar 5) (mC (.int 1))) (mVar 12)) mRNil)))))
def b_read_table : S → Res Out := (mSeq (mUnpT (tgT (tgsCons (tgT (tgsCons (tgName 10) (tgsCons (tgName 11) tgsNil))) (tgsCons (tgName 2) tgsNil))) (mCall f_read_numbers (mACons (mVar 0) (mACons (mC (.int 0)) (mACons (mC (.int 2)) mANil))))) (mSeq (mIfS (mBl (mBin (opEq false) (mVar 11) (mC (.int 0)))) (mRaise "BadBytes" "place" (mC (.int 0))) mNx) (mSeq (mParN [3, 4, 5] (mRCons (mLst mANil) (mRCons (mVar 10) (mRCons (mFn1 fNeg (mC (.int 1))) mRNil)))) (mSeq (mWhile t_read_table_2 l_read_table_3) (mSeq (mSet 1 (mLst mANil)) (mSeq (mFor (iSeq (mVar 3)) (tgTup [6, 7, 8, 9]) l_read_table_1) (mSeq (mIfS (mBl (mBin (opEq true) (mVar 2) (mFn1 fLen (mVar 0)))) (mRaise "BadBytes" "place" (mFn2 minI (mACons (mVar 2) (mACons (mFn1 fLen (mVar 0)) mANil)))) mNx) (mRet (mTup (mACons (mVar 10) (mACons (mVar 1) mANil)))))))))))
def f_read_table : Fm := mDef 1 15 b_read_table
theorem F_read_table (c : Fx P K mg) : FnM P w K mg base 7 "read_table" ["data"] f_read_table := by
  refine fnM (N := ["data", "table", "place", "rows", "left", "before", "size", "first", "told", "length", "many", "block", "gap", "greatest", "least"]) (m := b_read_table) c.d_read_table sc_read_table (by decide) (fun _ _ _ _ _ _ us hl => match us, hl with | [_], _ => rfl) fun f cdv A outer s H E hr => ?_
  have nd := (sc_read_table).nd
  exact (mss_cons (ms_unpT (me_fn (F_read_numbers c) hr (by decide) (by rfl) takesC (ma_cons (me_var (i := 0)) (ma_cons me_int (ma_cons me_int ma_nil)))) (mg2_tup (by rfl) (mgs2_cons (mg2_tup (by rfl) (mgs2_cons (mg2_name (i := 10) nd) (mgs2_cons (mg2_name (i := 11) nd) mgs2_nil))) (mgs2_cons (mg2_name (i := 2) nd) mgs2_nil)))) (mss_cons (ms_if (mt_cmp (op_eqM hr.units) os_eq (me_var (i := 11)) me_int (nomark _)) (mss_one (ms_raise c.x_BadBytes.xm (hr.mono (by decide)) (by rfl) takesC (by rfl) me_int)) mss_nil) (mss_cons (ms_par3 (i := 3) (j := 4) (l := 5) (by rfl) nd (mr_cons (me_lst ma_nil) (mr_cons (me_var (i := 10)) (mr_cons (me_neg me_int) mr_nil)))) (mss_cons (ms_while owns (mt_cmp or_gt os_gt (me_var (i := 4)) me_int (nomark _)) (mss_cons (ms_unpT (me_fn (F_read_numbers c) hr (by decide) (by rfl) takesC (ma_cons (me_var (i := 0)) (ma_cons (me_var (i := 2)) (ma_cons me_int ma_nil)))) (mg2_tup (by rfl) (mgs2_cons (mg2_tup (by rfl) (mgs2_cons (mg2_name (i := 12) nd) (mgs2_cons (mg2_name (i := 13) nd) (mgs2_cons (mg2_name (i := 14) nd) (mgs2_cons (mg2_name (i := 9) nd) mgs2_nil))))) (mgs2_cons (mg2_name (i := 2) nd) mgs2_nil)))) (mss_cons (ms_expr (me_append (me_var (i := 3)) (me_tup (ma_cons (me_min2 (by rfl) (ma_cons (me_var (i := 11)) (ma_cons (me_var (i := 4)) ma_nil)) (by rfl) c.g_min) (ma_cons (me_var (i := 5)) (ma_cons (me_tup (ma_cons (me_add (me_add (me_var (i := 5)) me_int) (me_var (i := 12))) (ma_cons (me_var (i := 13)) (ma_cons (me_var (i := 14)) ma_nil)))) (ma_cons (me_var (i := 9)) ma_nil))))))) (mss_one (ms_par (i := 4) (j := 5) (by rfl) nd (mr_cons (me_sub (me_var (i := 4)) (me_var (i := 11))) (mr_cons (me_add (me_add (me_var (i := 5)) me_int) (me_var (i := 12))) mr_nil))))))) (mss_cons (ms_set (i := 1) (me_lst ma_nil) nd) (mss_cons (ms_for owns (by rfl) (mi_seq (me_var (i := 3))) (mg_tup (by rfl) (mgs_cons (i := 6) (mgs_cons (i := 7) (mgs_cons (i := 8) (mgs_cons (i := 9) mgs_nil nd) nd) nd) nd)) (mss_cons (ms_expr (me_append (me_var (i := 1)) (me_tup (ma_cons (me_var (i := 6)) (ma_cons (me_var (i := 7)) (ma_cons (me_var (i := 8)) (ma_cons (me_var (i := 2)) (ma_cons (me_var (i := 9)) ma_nil)))))))) (mss_one (ms_augAdd (i := 2) (me_var (i := 9)) nd)))) (mss_cons (ms_if (mt_cmp (op_neM hr.units) os_eq (me_var (i := 2)) (me_len (me_var (i := 0)) (by rfl) c.g_len) (nomark _)) (mss_one (ms_raise c.x_BadBytes.xm (hr.mono (by decide)) (by rfl) takesC (by rfl) (me_min2 (by rfl) (ma_cons (me_var (i := 2)) (ma_cons (me_len (me_var (i := 0)) (by rfl) c.g_len) ma_nil)) (by rfl) c.g_min))) mss_nil) (mss_one (ms_ret (me_tup (ma_cons (me_var (i := 10)) (ma_cons (me_var (i := 1)) ma_nil))))))))))))
theorem sc_read_block : FnScope ["data", "row", "part", "found", "number", "counts", "many", "before", "told", "begin", "length", "numbers", "place", "size", "places", "_"] ["data", "row"] (defScope (tp 20)) := sc_of (by decide +kernel)
def e_read_block_1 : M := (mFn1 fLen (mVar 14))
def l_read_block_2 : S → Res Out := (mSeq (mUnp [13, 12] (mCall f_read_number (mACons (mVar 2) (mACons (mVar 12) mANil)))) (mSeq (mIfS (mBl (mBin (opEq false) (mVar 13) (mC (.int 0)))) (mRaise "BadBytes" "place" (mBin opSub (mVar 12) (mC (.int 1)))) mNx) (mSeq (mUnp [14, 12] (mCall f_read_gaps (mACons (mVar 2) (mACons (mVar 12) (mACons (mVar 13) (mACons (mFn1 fNeg (mC (.int 1))) mANil)))))) (mExpr (mLm1 fAppend (mVar 3) (mTup (mACons (mVar 4) (mACons (mFn1 fTuple (mVar 14)) mANil))))))))
def b_read_block : S → Res Out := (mSeq (mUnp [6, 7, 8, 9, 10] (mVar 1)) (mSeq (mSet 2 (mSlice (mVar 0) mNoPart (mPart (mBin opAdd (mVar 9) (mVar 10))))) (mSeq (mUnp [11, 12] (mCall f_read_gaps (mACons (mVar 2) (mACons (mVar 9) (mACons (mVar 6) (mACons (mVar 7) mANil)))))) (mSeq (mSet 3 (mLst mANil)) (mSeq (mFor (iSeq (mVar 11)) (tgName 4) l_read_block_2) (mSeq (mSet 5 (mComp [15, 14] (iSeq (mVar 3)) (tgTup [15, 14]) mYes e_read_block_1)) (mSeq (mIfS (mOrT (mBl (mBin (opEq true) (mVar 12) (mBin opAdd (mVar 9) (mVar 10)))) (mOrT (mBl (mBin (opEq true) (mBin opIx (mVar 11) (mFn1 fNeg (mC (.int 1)))) (mBin opIx (mVar 8) (mC (.int 0))))) (mOrT (mBl (mBin (opEq true) (mFn1 (fFold maxL true) (mVar 5)) (mBin opIx (mVar 8) (mC (.int 1))))) (mBl (mBin opGt (mFn1 (fFold minL true) (mVar 5)) (mBin opIx (mVar 8) (mC (.int 2)))))))) (mRaise "BadBytes" "place" (mVar 9)) mNx) (mRet (mFn1 fTuple (mVar 3))))))))))
def f_read_block : Fm := mDef 2 16 b_read_block
theorem F_read_block (c : Fx P K mg) : FnM P w K mg base 8 "read_block" ["data", "row"] f_read_block := by
  refine fnM (N := ["data", "row", "part", "found", "number", "counts", "many", "before", "told", "begin", "length", "numbers", "place", "size", "places", "_"]) (m := b_read_block) c.d_read_block sc_read_block (by decide) (fun _ _ _ _ _ _ us hl => match us, hl with | [_, _], _ => rfl) fun f cdv A outer s H E hr => ?_
  have nd := (sc_read_block).nd
  exact (mss_cons (ms_unp (by rfl) (me_var (i := 1)) (mgs_cons (i := 6) (mgs_cons (i := 7) (mgs_cons (i := 8) (mgs_cons (i := 9) (mgs_cons (i := 10) mgs_nil nd) nd) nd) nd) nd)) (mss_cons (ms_set (i := 2) (me_slice (me_var (i := 0)) mo_none (mo_some (me_add (me_var (i := 9)) (me_var (i := 10))))) nd) (mss_cons (ms_unp (by rfl) (me_fn (F_read_gaps c) hr (by decide) (by rfl) takesC (ma_cons (me_var (i := 2)) (ma_cons (me_var (i := 9)) (ma_cons (me_var (i := 6)) (ma_cons (me_var (i := 7)) ma_nil))))) (mgs_cons (i := 11) (mgs_cons (i := 12) mgs_nil nd) nd)) (mss_cons (ms_set (i := 3) (me_lst ma_nil) nd) (mss_cons (ms_for owns (by rfl) (mi_seq (me_var (i := 11))) (mg_name nd) (mss_cons (ms_unp (by rfl) (me_fn (F_read_number c) hr (by decide) (by rfl) takesC (ma_cons (me_var (i := 2)) (ma_cons (me_var (i := 12)) ma_nil))) (mgs_cons (i := 13) (mgs_cons (i := 12) mgs_nil nd) nd)) (mss_cons (ms_if (mt_cmp (op_eqM hr.units) os_eq (me_var (i := 13)) me_int (nomark _)) (mss_one (ms_raise c.x_BadBytes.xm (hr.mono (by decide)) (by rfl) takesC (by rfl) (me_sub (me_var (i := 12)) me_int))) mss_nil) (mss_cons (ms_unp (by rfl) (me_fn (F_read_gaps c) hr (by decide) (by rfl) takesC (ma_cons (me_var (i := 2)) (ma_cons (me_var (i := 12)) (ma_cons (me_var (i := 13)) (ma_cons (me_neg me_int) ma_nil))))) (mgs_cons (i := 14) (mgs_cons (i := 12) mgs_nil nd) nd)) (mss_one (ms_expr (me_append (me_var (i := 3)) (me_tup (ma_cons (me_var (i := 4)) (ma_cons (me_tuple (me_var (i := 14)) (by rfl) c.g_tuple) ma_nil)))))))))) (mss_cons (ms_setComp (i := 5) (by rfl) nd (mi_seq (me_var (i := 3))) (blk_of (own := [("_", 15), ("places", 14)]) (by rfl)) mgk_tup (by decide) (fun _ _ _ _ _ => (mg_tup (by rfl) (mgs_cons (i := 15) (mgs_cons (i := 14) mgs_nil nd) nd)).pg) (fun _ _ _ _ _ => mts_nil) (fun _ _ _ _ _ => (me_len (me_var (i := 14)) (by rfl) c.g_len))) (mss_cons (ms_if (mt_w (mw_or (mt_cmp (op_neM hr.units) os_eq (me_var (i := 12)) (me_add (me_var (i := 9)) (me_var (i := 10))) (nomark _)) (mw_or (mt_cmp (op_neM hr.units) os_eq (me_ix (me_var (i := 11)) (me_neg me_int)) (me_ix (me_var (i := 8)) me_int) (nomark _)) (mw_or (mt_cmp (op_neM hr.units) os_eq (me_maxL (by rfl) (me_var (i := 5)) (by rfl) c.g_max) (me_ix (me_var (i := 8)) me_int) (nomark _)) (mw_or1 (mt_cmp or_gt os_gt (me_minL (by rfl) (me_var (i := 5)) (by rfl) c.g_min) (me_ix (me_var (i := 8)) me_int) (nomark _))))))) (mss_one (ms_raise c.x_BadBytes.xm (hr.mono (by decide)) (by rfl) takesC (by rfl) (me_var (i := 9)))) mss_nil) (mss_one (ms_ret (me_tuple (me_var (i := 3)) (by rfl) c.g_tuple))))))))))
theorem sc__law_box : FnScope ["script"] ["script"] (defScope (tp 24)) := sc_of (by decide +kernel)
def b__law_box : S → Res Out := (mRet (mAlloc (mLst (mACons (mAlloc (mFn1 fList (mSlice (mVar 0) mNoPart (mPart (mC (.int 63)))))) (mACons (mC (.int 0)) (mACons (mBin opAdd (mC (.int 4711)) (mFn1 fLen (mVar 0))) mANil))))))
def f__law_box : Fm := mDef 1 1 b__law_box
theorem F__law_box (c : Fx P K mg) : FnM P w K mg base 1 "_law_box" ["script"] f__law_box := by
  refine fnM (N := ["script"]) (m := b__law_box) c.d__law_box sc__law_box (by decide) (fun _ _ _ _ _ _ us hl => match us, hl with | [_], _ => rfl) fun f cdv A outer s H E hr => ?_
  have nd := (sc__law_box).nd
  exact (mss_one (ms_ret (me_alloc (me_lst (ma_cons (me_alloc (me_list (me_slice (me_var (i := 0)) mo_none (mo_some me_int)) (by rfl) c.g_list)) (ma_cons me_int (ma_cons (me_add me_int (me_len (me_var (i := 0)) (by rfl) c.g_len)) ma_nil)))))))
theorem sc__law_load : FnScope ["box", "cells", "first", "second", "cell", "size"] ["box"] (defScope (tp 25)) := sc_of (by decide +kernel)
def b__law_load : S → Res Out := (mSeq (mSet 1 (mBin opIx (mVar 0) (mC (.int 0)))) (mSeq (mIfS (mBl (mBin opGt (mFn1 fLen (mVar 1)) (mC (.int 0)))) (mSeq (mSet 4 (mFn1 fInt (mLm1 fPopAt (mVar 1) (mC (.int 0))))) (mSeq (mSet 5 (mIf (mBl (mBin opGe (mVar 4) (mC (.int 0)))) (mBin opMul (mC (.int 2)) (mVar 4)) (mBin opSub (mBin opMul (mFn1 fNeg (mC (.int 2))) (mVar 4)) (mC (.int 1))))) (mSeq (mIfS (mBl (mBin opGe (mVar 5) (mC (.int 1000000000000000000)))) (mRet (mVar 5)) mNx) (mSetIx (mBin opMod (mFn1 fInt (mBin opAdd (mBin opAdd (mBin opMul (mBin opIx (mVar 0) (mC (.int 2))) (mC (.int 69621))) (mBin opMul (mVar 5) (mC (.int 48271)))) (mC (.int 11)))) (mC (.int 2147483647))) (mVar 0) (mC (.int 2)))))) mNx) (mSeq (mSet 2 (mBin opMod (mFn1 fInt (mBin opAdd (mBin opMul (mBin opIx (mVar 0) (mC (.int 2))) (mC (.int 48271))) (mC (.int 17)))) (mC (.int 2147483629)))) (mSeq (mSet 3 (mBin opMod (mFn1 fInt (mBin opAdd (mBin opMul (mVar 2) (mC (.int 69621))) (mC (.int 5)))) (mC (.int 2147483587)))) (mSeq (mSetIx (mBin opMod (mFn1 fInt (mBin opAdd (mBin opMul (mVar 3) (mC (.int 40692))) (mC (.int 3)))) (mC (.int 2147483563))) (mVar 0) (mC (.int 2))) (mRet (mBin opAdd (mBin opAdd (mBin opMul (mVar 2) (mC (.int 4611686014132420609))) (mBin opMul (mVar 3) (mC (.int 2147483647)))) (mBin opIx (mVar 0) (mC (.int 2))))))))))
def f__law_load : Fm := mDef 1 6 b__law_load
theorem F__law_load (c : Fx P K mg) : FnM P w K mg base 1 "_law_load" ["box"] f__law_load := by
  refine fnM (N := ["box", "cells", "first", "second", "cell", "size"]) (m := b__law_load) c.d__law_load sc__law_load (by decide) (fun _ _ _ _ _ _ us hl => match us, hl with | [_], _ => rfl) fun f cdv A outer s H E hr => ?_
  have nd := (sc__law_load).nd
  exact (mss_cons (ms_set (i := 1) (me_ix (me_var (i := 0)) me_int) nd) (mss_cons (ms_if (mt_cmp or_gt os_gt (me_len (me_var (i := 1)) (by rfl) c.g_len) me_int (nomark _)) (mss_cons (ms_set (i := 4) (me_toInt (me_popAt (me_var (i := 1)) me_int) (by rfl) c.g_int) nd) (mss_cons (ms_set (i := 5) (me_if (mt_cmp or_ge os_ge (me_var (i := 4)) me_int (nomark _)) (me_mul me_int (me_var (i := 4))) (me_sub (me_mul (me_neg me_int) (me_var (i := 4))) me_int)) nd) (mss_cons (ms_if (mt_cmp or_ge os_ge (me_var (i := 5)) me_int (nomark _)) (mss_one (ms_ret (me_var (i := 5)))) mss_nil) (mss_one (ms_setIx (me_mod (me_toInt (me_add (me_add (me_mul (me_ix (me_var (i := 0)) me_int) me_int) (me_mul (me_var (i := 5)) me_int)) me_int) (by rfl) c.g_int) me_int) (me_var (i := 0)) me_int))))) mss_nil) (mss_cons (ms_set (i := 2) (me_mod (me_toInt (me_add (me_mul (me_ix (me_var (i := 0)) me_int) me_int) me_int) (by rfl) c.g_int) me_int) nd) (mss_cons (ms_set (i := 3) (me_mod (me_toInt (me_add (me_mul (me_var (i := 2)) me_int) me_int) (by rfl) c.g_int) me_int) nd) (mss_cons (ms_setIx (me_mod (me_toInt (me_add (me_mul (me_var (i := 3)) me_int) me_int) (by rfl) c.g_int) me_int) (me_var (i := 0)) me_int) (mss_one (ms_ret (me_add (me_add (me_mul (me_var (i := 2)) me_int) (me_mul (me_var (i := 3)) me_int)) (me_ix (me_var (i := 0)) me_int)))))))))
theorem sc__law_draw : FnScope ["box", "many", "digit"] ["box", "many"] (defScope (tp 26)) := sc_of (by decide +kernel)
def b__law_draw : S → Res Out := (mSeq (mIfS (mBl (mBin opLt (mBin opIx (mVar 0) (mC (.int 1))) (mVar 1))) (mSetIx (mCall f__law_load (mACons (mVar 0) mANil)) (mVar 0) (mC (.int 1))) mNx) (mSeq (mSet 2 (mBin opMod (mFn1 fInt (mBin opIx (mVar 0) (mC (.int 1)))) (mVar 1))) (mSeq (mSetIx (mBin opFdiv (mBin opIx (mVar 0) (mC (.int 1))) (mVar 1)) (mVar 0) (mC (.int 1))) (mRet (mVar 2)))))
def f__law_draw : Fm := mDef 2 3 b__law_draw
theorem F__law_draw (c : Fx P K mg) : FnM P w K mg base 2 "_law_draw" ["box", "many"] f__law_draw := by
  refine fnM (N := ["box", "many", "digit"]) (m := b__law_draw) c.d__law_draw sc__law_draw (by decide) (fun _ _ _ _ _ _ us hl => match us, hl with | [_, _], _ => rfl) fun f cdv A outer s H E hr => ?_
  have nd := (sc__law_draw).nd
  exact (mss_cons (ms_if (mt_cmp or_lt os_lt (me_ix (me_var (i := 0)) me_int) (me_var (i := 1)) (nomark _)) (mss_one (ms_setIx (me_fn (F__law_load c) hr (by decide) (by rfl) takesC (ma_cons (me_var (i := 0)) ma_nil)) (me_var (i := 0)) me_int)) mss_nil) (mss_cons (ms_set (i := 2) (me_mod (me_toInt (me_ix (me_var (i := 0)) me_int) (by rfl) c.g_int) (me_var (i := 1))) nd) (mss_cons (ms_setIx (me_fdiv (me_ix (me_var (i := 0)) me_int) (me_var (i := 1))) (me_var (i := 0)) me_int) (mss_one (ms_ret (me_var (i := 2)))))))
theorem sc__law_same : FnScope ["a", "b", "k"] ["a", "b"] (defScope (tp 27)) := sc_of (by decide +kernel)
def e__law_same_1 (fself : Fm) : M := (mCall fself (mACons (mBin opIx (mVar 0) (mVar 2)) (mACons (mBin opIx (mVar 1) (mVar 2)) mANil)))
def b__law_same (fself : Fm) : S → Res Out := (mSeq (mIfS (mOrT (mAndT (mTru (mFn1 (fIsi .tup) (mVar 0))) (mTru (mFn1 (fIsi .tup) (mVar 1)))) (mAndT (mTru (mFn1 (fIsi .lst) (mVar 0))) (mTru (mFn1 (fIsi .lst) (mVar 1))))) (mRet (mAndV (mBin (opEq false) (mFn1 fLen (mVar 0)) (mFn1 fLen (mVar 1))) (mFn1 fAll (mComp [2] (iRange1 (mACons (mFn1 fLen (mVar 0)) mANil)) (tgName 2) mYes (e__law_same_1 fself))))) mNx) (mSeq (mIfS (mOrT (mTru (mFn1 (fIsi .bool) (mVar 0))) (mTru (mFn1 (fIsi .bool) (mVar 1)))) (mRet (mAndV (mFn1 (fIsi .bool) (mVar 0)) (mAndV (mFn1 (fIsi .bool) (mVar 1)) (mBin (opEq false) (mVar 0) (mVar 1))))) mNx) (mSeq (mIfS (mOrT (mAndT (mTru (mFn1 (fIsi .int) (mVar 0))) (mTru (mFn1 (fIsi .int) (mVar 1)))) (mAndT (mTru (mFn1 (fIsi .str) (mVar 0))) (mTru (mFn1 (fIsi .str) (mVar 1))))) (mRet (mBin (opEq false) (mVar 0) (mVar 1))) mNx) (mRet (mAndV (mBin (opIsN false) (mVar 0) (mC .non)) (mBin (opIsN false) (mVar 1) (mC .non)))))))
def f__law_same : Nat → Fm
  | 0 => mDef 2 3 fun _ => .stuck
  | k + 1 => mDef 2 3 (b__law_same (f__law_same k))
theorem F__law_same (c : Fx P K mg) : ∀ k : Nat, FnM P w K mg base (1 + k) "_law_same" ["a", "b"] (f__law_same k)
  | 0 => fnM (N := ["a", "b", "k"]) (k := 0) c.d__law_same sc__law_same (by decide) (fun _ _ _ _ _ _ us hl => match us, hl with | [_, _], _ => rfl) fun f cdv A outer s H E hr => mss_stuck
  | k + 1 => by
    have Fself := F__law_same c k
    refine fnM (N := ["a", "b", "k"]) (k := 1 + k) (m := b__law_same (f__law_same k)) c.d__law_same sc__law_same (by decide) (fun _ _ _ _ _ _ us hl => match us, hl with | [_, _], _ => rfl) fun f cdv A outer s H E hr => ?_
    have nd := (sc__law_same).nd
    exact (mss_cons (ms_if (mt_w (mw_or (mt_w (mw_and (mt_val (me_isi (T := .tup) (me_var (i := 0)) (by rfl) c.g_isinstance (by rfl) c.g_tuple (by decide +kernel))) (mw_and1 (mt_val (me_isi (T := .tup) (me_var (i := 1)) (by rfl) c.g_isinstance (by rfl) c.g_tuple (by decide +kernel)))))) (mw_or1 (mt_w (mw_and (mt_val (me_isi (T := .lst) (me_var (i := 0)) (by rfl) c.g_isinstance (by rfl) c.g_list (by decide +kernel))) (mw_and1 (mt_val (me_isi (T := .lst) (me_var (i := 1)) (by rfl) c.g_isinstance (by rfl) c.g_list (by decide +kernel))))))))) (mss_one (ms_ret (me_and (me_eq hr.units (me_len (me_var (i := 0)) (by rfl) c.g_len) (me_len (me_var (i := 1)) (by rfl) c.g_len)) (me_one (me_all (by rfl) (me_comp (by rfl) nd (mi_range1 (ma_cons (me_len (me_var (i := 0)) (by rfl) c.g_len) ma_nil) (by rfl) c.g_range) (blk_of (own := [("k", 2)]) (by rfl)) mgk_name (by decide) (fun _ _ _ _ _ => (mg_name nd).pg) (fun _ _ _ _ _ => mts_nil) (fun _ _ _ _ _ => (me_fn Fself hr (by omega) (by rfl) takesB (ma_cons (me_ix (me_var (i := 0)) (me_var (i := 2))) (ma_cons (me_ix (me_var (i := 1)) (me_var (i := 2))) ma_nil))))) (by rfl) c.g_all))))) mss_nil) (mss_cons (ms_if (mt_w (mw_or (mt_val (me_isi (T := .bool) (me_var (i := 0)) (by rfl) c.g_isinstance (by rfl) c.g_bool (by decide +kernel))) (mw_or1 (mt_val (me_isi (T := .bool) (me_var (i := 1)) (by rfl) c.g_isinstance (by rfl) c.g_bool (by decide +kernel)))))) (mss_one (ms_ret (me_and (me_isi (T := .bool) (me_var (i := 0)) (by rfl) c.g_isinstance (by rfl) c.g_bool (by decide +kernel)) (me_and (me_isi (T := .bool) (me_var (i := 1)) (by rfl) c.g_isinstance (by rfl) c.g_bool (by decide +kernel)) (me_one (me_eq hr.units (me_var (i := 0)) (me_var (i := 1)))))))) mss_nil) (mss_cons (ms_if (mt_w (mw_or (mt_w (mw_and (mt_val (me_isi (T := .int) (me_var (i := 0)) (by rfl) c.g_isinstance (by rfl) c.g_int (by decide +kernel))) (mw_and1 (mt_val (me_isi (T := .int) (me_var (i := 1)) (by rfl) c.g_isinstance (by rfl) c.g_int (by decide +kernel)))))) (mw_or1 (mt_w (mw_and (mt_val (me_isi (T := .str) (me_var (i := 0)) (by rfl) c.g_isinstance (by rfl) c.g_str (by decide +kernel))) (mw_and1 (mt_val (me_isi (T := .str) (me_var (i := 1)) (by rfl) c.g_isinstance (by rfl) c.g_str (by decide +kernel))))))))) (mss_one (ms_ret (me_eq hr.units (me_var (i := 0)) (me_var (i := 1))))) mss_nil) (mss_one (ms_ret (me_and (me_isN (me_var (i := 0))) (me_one (me_isN (me_var (i := 1))))))))))
theorem sc__law_postings : FnScope ["box", "many", "number", "got", "lengths", "places", "place"] ["box", "many"] (defScope (tp 28)) := sc_of (by decide +kernel)
def c__law_postings_1 : S → Res Bool := (mBl (mBin (opEq false) (mCall f__law_draw (mACons (mVar 0) (mACons (mC (.int 2)) mANil))) (mC (.int 0))))
def l__law_postings_2 : S → Res Out := (mSeq (mSet 5 (mFn1 fTuple (mComp [6] (iRange1 (mACons (mCall f__law_draw (mACons (mVar 0) (mACons (mC (.int 7)) mANil))) mANil)) (tgName 6) c__law_postings_1 (mVar 6)))) (mSeq (mSet 5 (mIf (mAndT (mBl (mBin (opEq true) (mVar 5) (mTup mANil))) (mBl (mBin (opEq false) (mCall f__law_draw (mACons (mVar 0) (mACons (mC (.int 8)) mANil))) (mC (.int 0))))) (mBin opAdd (mSlice (mVar 5) mNoPart (mPart (mFn1 fNeg (mC (.int 1))))) (mTup (mACons (mBin opAdd (mBin opIx (mVar 5) (mFn1 fNeg (mC (.int 1)))) (mC (.int 300))) mANil))) (mVar 5))) (mSeq (mExpr (mLm1 fAppend (mVar 4) (mBin opAdd (mFn1 fLen (mVar 5)) (mCall f__law_draw (mACons (mVar 0) (mACons (mC (.int 5)) mANil)))))) (mSet 3 (mBin opAdd (mVar 3) (mIf (mBl (mBin (opEq true) (mVar 5) (mTup mANil))) (mLst (mACons (mTup (mACons (mVar 2) (mACons (mVar 5) mANil))) mANil)) (mLst mANil)))))))
def b__law_postings : S → Res Out := (mSeq (mParN [3, 4] (mRCons (mLst mANil) (mRCons (mLst mANil) mRNil))) (mSeq (mFor (iRange1 (mACons (mVar 1) mANil)) (tgName 2) l__law_postings_2) (mRet (mTup (mACons (mFn1 fTuple (mVar 3)) (mACons (mFn1 fTuple (mVar 4)) mANil))))))
def f__law_postings : Fm := mDef 2 7 b__law_postings
theorem F__law_postings (c : Fx P K mg) : FnM P w K mg base 3 "_law_postings" ["box", "many"] f__law_postings := by
  refine fnM (N := ["box", "many", "number", "got", "lengths", "places", "place"]) (m := b__law_postings) c.d__law_postings sc__law_postings (by decide) (fun _ _ _ _ _ _ us hl => match us, hl with | [_, _], _ => rfl) fun f cdv A outer s H E hr => ?_
  have nd := (sc__law_postings).nd
  exact (mss_cons (ms_par (i := 3) (j := 4) (by rfl) nd (mr_cons (me_lst ma_nil) (mr_cons (me_lst ma_nil) mr_nil))) (mss_cons (ms_for owns (by rfl) (mi_range1 (ma_cons (me_var (i := 1)) ma_nil) (by rfl) c.g_range) (mg_name nd) (mss_cons (ms_set (i := 5) (me_tuple (me_comp (by rfl) nd (mi_range1 (ma_cons (me_fn (F__law_draw c) hr (by decide) (by rfl) takesC (ma_cons (me_var (i := 0)) (ma_cons me_int ma_nil))) ma_nil) (by rfl) c.g_range) (blk_of (own := [("place", 6)]) (by rfl)) mgk_name (by decide) (fun _ _ _ _ _ => (mg_name nd).pg) (fun _ _ _ _ _ => (mts_one (mt_cmp (op_eqM hr.units) os_eq (me_fn (F__law_draw c) hr (by decide) (by rfl) takesB (ma_cons (me_var (i := 0)) (ma_cons me_int ma_nil))) me_int (nomark _)))) (fun _ _ _ _ _ => (me_var (i := 6)))) (by rfl) c.g_tuple) nd) (mss_cons (ms_set (i := 5) (me_if (mt_w (mw_and (mt_cmp (op_neM hr.units) os_eq (me_var (i := 5)) (me_tup ma_nil) (nomark _)) (mw_and1 (mt_cmp (op_eqM hr.units) os_eq (me_fn (F__law_draw c) hr (by decide) (by rfl) takesC (ma_cons (me_var (i := 0)) (ma_cons me_int ma_nil))) me_int (nomark _))))) (me_add (me_slice (me_var (i := 5)) mo_none (mo_some (me_neg me_int))) (me_tup (ma_cons (me_add (me_ix (me_var (i := 5)) (me_neg me_int)) me_int) ma_nil))) (me_var (i := 5))) nd) (mss_cons (ms_expr (me_append (me_var (i := 4)) (me_add (me_len (me_var (i := 5)) (by rfl) c.g_len) (me_fn (F__law_draw c) hr (by decide) (by rfl) takesC (ma_cons (me_var (i := 0)) (ma_cons me_int ma_nil)))))) (mss_one (ms_set (i := 3) (me_add (me_var (i := 3)) (me_if (mt_cmp (op_neM hr.units) os_eq (me_var (i := 5)) (me_tup ma_nil) (nomark _)) (me_lst (ma_cons (me_tup (ma_cons (me_var (i := 2)) (ma_cons (me_var (i := 5)) ma_nil))) ma_nil)) (me_lst ma_nil))) nd)))))) (mss_one (ms_ret (me_tup (ma_cons (me_tuple (me_var (i := 3)) (by rfl) c.g_tuple) (ma_cons (me_tuple (me_var (i := 4)) (by rfl) c.g_tuple) ma_nil)))))))
theorem sc__law_course : FnScope ["box", "many", "got", "step"] ["box", "many"] (defScope (tp 29)) := sc_of (by decide +kernel)
def l__law_course_1 : S → Res Out := (mExpr (mLm1 fAppend (mVar 2) (mTup (mACons (mBin opIx (mTup (mACons (mC (.str "number")) (mACons (mC (.str "places")) (mACons (mC (.str "next")) (mACons (mC (.str "seek")) (mACons (mC (.str "told")) (mACons (mC (.str "from")) (mACons (mC (.str "count")) mANil)))))))) (mCall f__law_draw (mACons (mVar 0) (mACons (mC (.int 7)) mANil)))) (mACons (mCall f__law_draw (mACons (mVar 0) (mACons (mBin opAdd (mVar 1) (mC (.int 3))) mANil))) mANil)))))
def b__law_course : S → Res Out := (mSeq (mSet 2 (mLst mANil)) (mSeq (mFor (iRange1 (mACons (mCall f__law_draw (mACons (mVar 0) (mACons (mC (.int 15)) mANil))) mANil)) (tgName 3) l__law_course_1) (mRet (mVar 2))))
def f__law_course : Fm := mDef 2 4 b__law_course
theorem F__law_course (c : Fx P K mg) : FnM P w K mg base 3 "_law_course" ["box", "many"] f__law_course := by
  refine fnM (N := ["box", "many", "got", "step"]) (m := b__law_course) c.d__law_course sc__law_course (by decide) (fun _ _ _ _ _ _ us hl => match us, hl with | [_, _], _ => rfl) fun f cdv A outer s H E hr => ?_
  have nd := (sc__law_course).nd
  exact (mss_cons (ms_set (i := 2) (me_lst ma_nil) nd) (mss_cons (ms_for owns (by rfl) (mi_range1 (ma_cons (me_fn (F__law_draw c) hr (by decide) (by rfl) takesC (ma_cons (me_var (i := 0)) (ma_cons me_int ma_nil))) ma_nil) (by rfl) c.g_range) (mg_name nd) (mss_one (ms_expr (me_append (me_var (i := 2)) (me_tup (ma_cons (me_ix (me_tup (ma_cons me_str (ma_cons me_str (ma_cons me_str (ma_cons me_str (ma_cons me_str (ma_cons me_str (ma_cons me_str ma_nil)))))))) (me_fn (F__law_draw c) hr (by decide) (by rfl) takesC (ma_cons (me_var (i := 0)) (ma_cons me_int ma_nil)))) (ma_cons (me_fn (F__law_draw c) hr (by decide) (by rfl) takesC (ma_cons (me_var (i := 0)) (ma_cons (me_add (me_var (i := 1)) me_int) ma_nil))) ma_nil))))))) (mss_one (ms_ret (me_var (i := 2))))))
theorem sc_Cursor_blocks_read : FnScope ["self"] ["self"] (defScope (mt 22 10)) := sc_of (by decide +kernel)
def b_Cursor_blocks_read : S → Res Out := (mRet (mFld "Cursor" "_read" (mVar 0)))
def f_Cursor_blocks_read : Fm := mDef 1 1 b_Cursor_blocks_read
theorem F_Cursor_blocks_read (c : Fx P K mg) : MtM P w K mg base 1 "Cursor" "blocks_read" ["self"] f_Cursor_blocks_read := by
  refine mtM (N := ["self"]) (m := b_Cursor_blocks_read) c.d_Cursor_blocks_read sc_Cursor_blocks_read (by decide) (fun _ _ _ _ _ _ us hl => match us, hl with | [_], _ => rfl) fun f cdv A outer s H E hr => ?_
  have nd := (sc_Cursor_blocks_read).nd
  exact (mss_one (ms_ret (me_fld c.c_Cursor c.n_Cursor__read (me_var (i := 0)))))
theorem sc_Cursor__postings : FnScope ["self", "posting"] ["self"] (defScope (mt 22 2)) := sc_of (by decide +kernel)
def c_Cursor__postings_1 : S → Res Bool := (mBl (mBin opGe (mBin opIx (mVar 1) (mC (.int 0))) (mFld "Cursor" "_least" (mVar 0))))
def b_Cursor__postings : S → Res Out := (mSeq (mIfS (mBl (mBin (opEq false) (mFld "Cursor" "_block" (mVar 0)) (mFn1 fLen (mFld "Cursor" "_table" (mVar 0))))) (mRet (mTup mANil)) mNx) (mSeq (mIfS (mBl (mBin (opIsN false) (mFld "Cursor" "_opened" (mVar 0)) (mC .non))) (mSeq (mSetFld "Cursor" "_opened" (mVar 0) (mCall f_read_block (mACons (mFld "Cursor" "_data" (mVar 0)) (mACons (mBin opIx (mFld "Cursor" "_table" (mVar 0)) (mFld "Cursor" "_block" (mVar 0))) mANil)))) (mAugFld "Cursor" "_read" (fun i j => i + j) (mVar 0) (mC (.int 1)))) mNx) (mRet (mFn1 fTuple (mComp [1] (iSeq (mFld "Cursor" "_opened" (mVar 0))) (tgName 1) c_Cursor__postings_1 (mVar 1))))))
def f_Cursor__postings : Fm := mDef 1 2 b_Cursor__postings
theorem F_Cursor__postings (c : Fx P K mg) : MtM P w K mg base 9 "Cursor" "_postings" ["self"] f_Cursor__postings := by
  refine mtM (N := ["self", "posting"]) (m := b_Cursor__postings) c.d_Cursor__postings sc_Cursor__postings (by decide) (fun _ _ _ _ _ _ us hl => match us, hl with | [_], _ => rfl) fun f cdv A outer s H E hr => ?_
  have nd := (sc_Cursor__postings).nd
  exact (mss_cons (ms_if (mt_cmp (op_eqM hr.units) os_eq (me_fld c.c_Cursor c.n_Cursor__block (me_var (i := 0))) (me_len (me_fld c.c_Cursor c.n_Cursor__table (me_var (i := 0))) (by rfl) c.g_len) (nomark _)) (mss_one (ms_ret (me_tup ma_nil))) mss_nil) (mss_cons (ms_if (mt_cmp op_isN os_isN (me_fld c.c_Cursor c.n_Cursor__opened (me_var (i := 0))) me_non (nomark _)) (mss_cons (ms_setFld c.c_Cursor c.n_Cursor__opened (me_var (i := 0)) (me_fn (F_read_block c) hr (by decide) (by rfl) takesC (ma_cons (me_fld c.c_Cursor c.n_Cursor__data (me_var (i := 0))) (ma_cons (me_ix (me_fld c.c_Cursor c.n_Cursor__table (me_var (i := 0))) (me_fld c.c_Cursor c.n_Cursor__block (me_var (i := 0)))) ma_nil)))) (mss_one (ms_augFld c.c_Cursor c.n_Cursor__read (me_var (i := 0)) me_int))) mss_nil) (mss_one (ms_ret (me_tuple (me_comp (by rfl) nd (mi_seq (me_fld c.c_Cursor c.n_Cursor__opened (me_var (i := 0)))) (blk_of (own := [("posting", 1)]) (by rfl)) mgk_name (by decide) (fun _ _ _ _ _ => (mg_name nd).pg) (fun _ _ _ _ _ => (mts_one (mt_cmp or_ge os_ge (me_ix (me_var (i := 1)) me_int) (me_fld c.c_Cursor c.n_Cursor__least (me_var (i := 0))) (nomark _)))) (fun _ _ _ _ _ => (me_var (i := 1)))) (by rfl) c.g_tuple)))))
theorem sc_Cursor_number : FnScope ["self", "left"] ["self"] (defScope (mt 22 4)) := sc_of (by decide +kernel)
def b_Cursor_number : S → Res Out := (mSeq (mSet 1 (mMeth "Cursor" "_postings" f_Cursor__postings (mVar 0) mANil)) (mRet (mIf (mTru (mVar 1)) (mBin opIx (mBin opIx (mVar 1) (mC (.int 0))) (mC (.int 0))) (mC .non))))
def f_Cursor_number : Fm := mDef 1 2 b_Cursor_number
theorem F_Cursor_number (c : Fx P K mg) : MtM P w K mg base 10 "Cursor" "number" ["self"] f_Cursor_number := by
  refine mtM (N := ["self", "left"]) (m := b_Cursor_number) c.d_Cursor_number sc_Cursor_number (by decide) (fun _ _ _ _ _ _ us hl => match us, hl with | [_], _ => rfl) fun f cdv A outer s H E hr => ?_
  have nd := (sc_Cursor_number).nd
  exact (mss_cons (ms_set (i := 1) (me_meth0 (F_Cursor__postings c) hr (by decide) c.c_Cursor takesC (me_var (i := 0))) nd) (mss_one (ms_ret (me_if (mt_val (me_var (i := 1))) (me_ix (me_ix (me_var (i := 1)) me_int) me_int) me_non))))
theorem sc_Cursor_places : FnScope ["self", "left"] ["self"] (defScope (mt 22 5)) := sc_of (by decide +kernel)
def b_Cursor_places : S → Res Out := (mSeq (mSet 1 (mMeth "Cursor" "_postings" f_Cursor__postings (mVar 0) mANil)) (mRet (mIf (mTru (mVar 1)) (mBin opIx (mBin opIx (mVar 1) (mC (.int 0))) (mC (.int 1))) (mTup mANil))))
def f_Cursor_places : Fm := mDef 1 2 b_Cursor_places
theorem F_Cursor_places (c : Fx P K mg) : MtM P w K mg base 10 "Cursor" "places" ["self"] f_Cursor_places := by
  refine mtM (N := ["self", "left"]) (m := b_Cursor_places) c.d_Cursor_places sc_Cursor_places (by decide) (fun _ _ _ _ _ _ us hl => match us, hl with | [_], _ => rfl) fun f cdv A outer s H E hr => ?_
  have nd := (sc_Cursor_places).nd
  exact (mss_cons (ms_set (i := 1) (me_meth0 (F_Cursor__postings c) hr (by decide) c.c_Cursor takesC (me_var (i := 0))) nd) (mss_one (ms_ret (me_if (mt_val (me_var (i := 1))) (me_ix (me_ix (me_var (i := 1)) me_int) me_int) (me_tup ma_nil)))))
theorem sc_Cursor__enter : FnScope ["self", "block", "least"] ["self", "block", "least"] (defScope (mt 22 1)) := sc_of (by decide +kernel)
def b_Cursor__enter : S → Res Out := (mSeq (mIfS (mBl (mBin (opEq true) (mVar 1) (mFld "Cursor" "_block" (mVar 0)))) (mSetFld "Cursor" "_opened" (mVar 0) (mC .non)) mNx) (mUnpF (tgsCons (tgFld "Cursor" "_block" 0) (tgsCons (tgFld "Cursor" "_least" 0) tgsNil)) (mTup (mACons (mVar 1) (mACons (mVar 2) mANil)))))
def f_Cursor__enter : Fm := mDef 3 3 b_Cursor__enter
theorem F_Cursor__enter (c : Fx P K mg) : MtM P w K mg base 1 "Cursor" "_enter" ["self", "block", "least"] f_Cursor__enter := by
  refine mtM (N := ["self", "block", "least"]) (m := b_Cursor__enter) c.d_Cursor__enter sc_Cursor__enter (by decide) (fun _ _ _ _ _ _ us hl => match us, hl with | [_, _, _], _ => rfl) fun f cdv A outer s H E hr => ?_
  have nd := (sc_Cursor__enter).nd
  exact (mss_cons (ms_if (mt_cmp (op_neM hr.units) os_eq (me_var (i := 1)) (me_fld c.c_Cursor c.n_Cursor__block (me_var (i := 0))) (nomark _)) (mss_one (ms_setFld c.c_Cursor c.n_Cursor__opened (me_var (i := 0)) me_non)) mss_nil) (mss_one (ms_unpF (by rfl) (me_tup (ma_cons (me_var (i := 1)) (ma_cons (me_var (i := 2)) ma_nil))) (mgfs_cons (mgf_fld (i := 0) c.c_Cursor c.n_Cursor__block (me_var (i := 0))) (mgfs_cons (mgf_fld (i := 0) c.c_Cursor c.n_Cursor__least (me_var (i := 0))) mgfs_nil)))))
theorem sc_Cursor_seek : FnScope ["self", "least", "block"] ["self", "least"] (defScope (mt 22 7)) := sc_of (by decide +kernel)
def t_Cursor_seek_1 : S → Res Bool := (mAndT (mBl (mBin opLt (mVar 2) (mFn1 fLen (mFld "Cursor" "_table" (mVar 0))))) (mBl (mBin opLt (mBin opIx (mBin opIx (mBin opIx (mFld "Cursor" "_table" (mVar 0)) (mVar 2)) (mC (.int 2))) (mC (.int 0))) (mVar 1))))
def l_Cursor_seek_2 : S → Res Out := (mAug 2 (fun a b => a + b) (mC (.int 1)))
def b_Cursor_seek : S → Res Out := (mSeq (mSet 2 (mFld "Cursor" "_block" (mVar 0))) (mSeq (mWhile t_Cursor_seek_1 l_Cursor_seek_2) (mExpr (mMeth "Cursor" "_enter" f_Cursor__enter (mVar 0) (mACons (mVar 2) (mACons (mFn2 maxI (mACons (mVar 1) (mACons (mFld "Cursor" "_least" (mVar 0)) mANil))) mANil))))))
def f_Cursor_seek : Fm := mDef 2 3 b_Cursor_seek
theorem F_Cursor_seek (c : Fx P K mg) : MtM P w K mg base 2 "Cursor" "seek" ["self", "least"] f_Cursor_seek := by
  refine mtM (N := ["self", "least", "block"]) (m := b_Cursor_seek) c.d_Cursor_seek sc_Cursor_seek (by decide) (fun _ _ _ _ _ _ us hl => match us, hl with | [_, _], _ => rfl) fun f cdv A outer s H E hr => ?_
  have nd := (sc_Cursor_seek).nd
  exact (mss_cons (ms_set (i := 2) (me_fld c.c_Cursor c.n_Cursor__block (me_var (i := 0))) nd) (mss_cons (ms_while owns (mt_w (mw_and (mt_cmp or_lt os_lt (me_var (i := 2)) (me_len (me_fld c.c_Cursor c.n_Cursor__table (me_var (i := 0))) (by rfl) c.g_len) (nomark _)) (mw_and1 (mt_cmp or_lt os_lt (me_ix (me_ix (me_ix (me_fld c.c_Cursor c.n_Cursor__table (me_var (i := 0))) (me_var (i := 2))) me_int) me_int) (me_var (i := 1)) (nomark _))))) (mss_one (ms_augAdd (i := 2) me_int nd))) (mss_one (ms_expr (me_meth (F_Cursor__enter c) hr (by decide) c.c_Cursor takesC (me_var (i := 0)) (ma_cons (me_var (i := 2)) (ma_cons (me_max2 (by rfl) (ma_cons (me_var (i := 1)) (ma_cons (me_fld c.c_Cursor c.n_Cursor__least (me_var (i := 0))) ma_nil)) (by rfl) c.g_max) ma_nil)))))))
theorem sc_Cursor_next : FnScope ["self", "number"] ["self"] (defScope (mt 22 6)) := sc_of (by decide +kernel)
def b_Cursor_next : S → Res Out := (mSeq (mSet 1 (mMeth "Cursor" "number" f_Cursor_number (mVar 0) mANil)) (mIfS (mBl (mBin (opIsN true) (mVar 1) (mC .non))) (mExpr (mMeth "Cursor" "seek" f_Cursor_seek (mVar 0) (mACons (mBin opAdd (mVar 1) (mC (.int 1))) mANil))) mNx))
def f_Cursor_next : Fm := mDef 1 2 b_Cursor_next
theorem F_Cursor_next (c : Fx P K mg) : MtM P w K mg base 11 "Cursor" "next" ["self"] f_Cursor_next := by
  refine mtM (N := ["self", "number"]) (m := b_Cursor_next) c.d_Cursor_next sc_Cursor_next (by decide) (fun _ _ _ _ _ _ us hl => match us, hl with | [_], _ => rfl) fun f cdv A outer s H E hr => ?_
  have nd := (sc_Cursor_next).nd
  exact (mss_cons (ms_set (i := 1) (me_meth0 (F_Cursor_number c) hr (by decide) c.c_Cursor takesC (me_var (i := 0))) nd) (mss_one (ms_if (mt_cmp op_notN os_notN (me_var (i := 1)) me_non (nomark _)) (mss_one (ms_expr (me_meth (F_Cursor_seek c) hr (by decide) c.c_Cursor takesC (me_var (i := 0)) (ma_cons (me_add (me_var (i := 1)) me_int) ma_nil)))) mss_nil)))
theorem sc_Cursor_block_told : FnScope ["self"] ["self"] (defScope (mt 22 8)) := sc_of (by decide +kernel)
def b_Cursor_block_told : S → Res Out := (mRet (mIf (mBl (mBin opLt (mFld "Cursor" "_block" (mVar 0)) (mFn1 fLen (mFld "Cursor" "_table" (mVar 0))))) (mBin opIx (mBin opIx (mFld "Cursor" "_table" (mVar 0)) (mFld "Cursor" "_block" (mVar 0))) (mC (.int 2))) (mC .non)))
def f_Cursor_block_told : Fm := mDef 1 1 b_Cursor_block_told
theorem F_Cursor_block_told (c : Fx P K mg) : MtM P w K mg base 1 "Cursor" "block_told" ["self"] f_Cursor_block_told := by
  refine mtM (N := ["self"]) (m := b_Cursor_block_told) c.d_Cursor_block_told sc_Cursor_block_told (by decide) (fun _ _ _ _ _ _ us hl => match us, hl with | [_], _ => rfl) fun f cdv A outer s H E hr => ?_
  have nd := (sc_Cursor_block_told).nd
  exact (mss_one (ms_ret (me_if (mt_cmp or_lt os_lt (me_fld c.c_Cursor c.n_Cursor__block (me_var (i := 0))) (me_len (me_fld c.c_Cursor c.n_Cursor__table (me_var (i := 0))) (by rfl) c.g_len) (nomark _)) (me_ix (me_ix (me_fld c.c_Cursor c.n_Cursor__table (me_var (i := 0))) (me_fld c.c_Cursor c.n_Cursor__block (me_var (i := 0)))) me_int) me_non)))
theorem sc_Cursor_told_from : FnScope ["self", "least", "told", "row"] ["self", "least"] (defScope (mt 22 9)) := sc_of (by decide +kernel)
def c_Cursor_told_from_1 : S → Res Bool := (mBl (mBin opGe (mBin opIx (mBin opIx (mVar 3) (mC (.int 2))) (mC (.int 0))) (mVar 1)))
def e_Cursor_told_from_2 : M := (mBin opIx (mVar 3) (mC (.int 2)))
def b_Cursor_told_from : S → Res Out := (mSeq (mSet 2 (mComp [3] (iSeq (mFld "Cursor" "_table" (mVar 0))) (tgName 3) c_Cursor_told_from_1 e_Cursor_told_from_2)) (mRet (mIf (mTru (mVar 2)) (mBin opIx (mVar 2) (mC (.int 0))) (mC .non))))
def f_Cursor_told_from : Fm := mDef 2 4 b_Cursor_told_from
theorem F_Cursor_told_from (c : Fx P K mg) : MtM P w K mg base 1 "Cursor" "told_from" ["self", "least"] f_Cursor_told_from := by
  refine mtM (N := ["self", "least", "told", "row"]) (m := b_Cursor_told_from) c.d_Cursor_told_from sc_Cursor_told_from (by decide) (fun _ _ _ _ _ _ us hl => match us, hl with | [_, _], _ => rfl) fun f cdv A outer s H E hr => ?_
  have nd := (sc_Cursor_told_from).nd
  exact (mss_cons (ms_setComp (i := 2) (by rfl) nd (mi_seq (me_fld c.c_Cursor c.n_Cursor__table (me_var (i := 0)))) (blk_of (own := [("row", 3)]) (by rfl)) mgk_name (by decide) (fun _ _ _ _ _ => (mg_name nd).pg) (fun _ _ _ _ _ => (mts_one (mt_cmp or_ge os_ge (me_ix (me_ix (me_var (i := 3)) me_int) me_int) (me_var (i := 1)) (nomark _)))) (fun _ _ _ _ _ => (me_ix (me_var (i := 3)) me_int))) (mss_one (ms_ret (me_if (mt_val (me_var (i := 2))) (me_ix (me_var (i := 2)) me_int) me_non))))
theorem sc_Cursor_count : FnScope ["self"] ["self"] (defScope (mt 22 3)) := sc_of (by decide +kernel)
def b_Cursor_count : S → Res Out := (mRet (mFld "Cursor" "_many" (mVar 0)))
def f_Cursor_count : Fm := mDef 1 1 b_Cursor_count
theorem F_Cursor_count (c : Fx P K mg) : MtM P w K mg base 1 "Cursor" "count" ["self"] f_Cursor_count := by
  refine mtM (N := ["self"]) (m := b_Cursor_count) c.d_Cursor_count sc_Cursor_count (by decide) (fun _ _ _ _ _ _ us hl => match us, hl with | [_], _ => rfl) fun f cdv A outer s H E hr => ?_
  have nd := (sc_Cursor_count).nd
  exact (mss_one (ms_ret (me_fld c.c_Cursor c.n_Cursor__many (me_var (i := 0)))))
theorem sc__law_told : FnScope ["cursor", "steps", "got", "word", "number"] ["cursor", "steps"] (defScope (tp 30)) := sc_of (by decide +kernel)
def l__law_told_1 : S → Res Out := (mSeq (mIfS (mBl (mBin (opEq false) (mVar 3) (mC (.str "number")))) (mExpr (mLm1 fAppend (mVar 2) (mMeth "Cursor" "number" f_Cursor_number (mVar 0) mANil))) (mIfS (mBl (mBin (opEq false) (mVar 3) (mC (.str "places")))) (mExpr (mLm1 fAppend (mVar 2) (mMeth "Cursor" "places" f_Cursor_places (mVar 0) mANil))) (mIfS (mBl (mBin (opEq false) (mVar 3) (mC (.str "next")))) (mSeq (mExpr (mMeth "Cursor" "next" f_Cursor_next (mVar 0) mANil)) (mExpr (mLm1 fAppend (mVar 2) (mC .non)))) (mIfS (mBl (mBin (opEq false) (mVar 3) (mC (.str "seek")))) (mSeq (mExpr (mMeth "Cursor" "seek" f_Cursor_seek (mVar 0) (mACons (mVar 4) mANil))) (mExpr (mLm1 fAppend (mVar 2) (mC .non)))) (mIfS (mBl (mBin (opEq false) (mVar 3) (mC (.str "told")))) (mExpr (mLm1 fAppend (mVar 2) (mMeth "Cursor" "block_told" f_Cursor_block_told (mVar 0) mANil))) (mIfS (mBl (mBin (opEq false) (mVar 3) (mC (.str "from")))) (mExpr (mLm1 fAppend (mVar 2) (mMeth "Cursor" "told_from" f_Cursor_told_from (mVar 0) (mACons (mVar 4) mANil)))) (mExpr (mLm1 fAppend (mVar 2) (mMeth "Cursor" "count" f_Cursor_count (mVar 0) mANil))))))))) (mExpr (mLm1 fAppend (mVar 2) (mMeth "Cursor" "blocks_read" f_Cursor_blocks_read (mVar 0) mANil))))
def b__law_told : S → Res Out := (mSeq (mSet 2 (mLst mANil)) (mSeq (mFor (iSeq (mVar 1)) (tgTup [3, 4]) l__law_told_1) (mRet (mVar 2))))
def f__law_told : Fm := mDef 2 5 b__law_told
theorem F__law_told (c : Fx P K mg) : FnM P w K mg base 12 "_law_told" ["cursor", "steps"] f__law_told := by
  refine fnM (N := ["cursor", "steps", "got", "word", "number"]) (m := b__law_told) c.d__law_told sc__law_told (by decide) (fun _ _ _ _ _ _ us hl => match us, hl with | [_, _], _ => rfl) fun f cdv A outer s H E hr => ?_
  have nd := (sc__law_told).nd
  exact (mss_cons (ms_set (i := 2) (me_lst ma_nil) nd) (mss_cons (ms_for owns (by rfl) (mi_seq (me_var (i := 1))) (mg_tup (by rfl) (mgs_cons (i := 3) (mgs_cons (i := 4) mgs_nil nd) nd)) (mss_cons (ms_if (mt_cmp (op_eqM hr.units) os_eq (me_var (i := 3)) me_str (nomark _)) (mss_one (ms_expr (me_append (me_var (i := 2)) (me_meth0 (F_Cursor_number c) hr (by decide) c.c_Cursor takesC (me_var (i := 0)))))) (mss_one (ms_if (mt_cmp (op_eqM hr.units) os_eq (me_var (i := 3)) me_str (nomark _)) (mss_one (ms_expr (me_append (me_var (i := 2)) (me_meth0 (F_Cursor_places c) hr (by decide) c.c_Cursor takesC (me_var (i := 0)))))) (mss_one (ms_if (mt_cmp (op_eqM hr.units) os_eq (me_var (i := 3)) me_str (nomark _)) (mss_cons (ms_expr (me_meth0 (F_Cursor_next c) hr (by decide) c.c_Cursor takesC (me_var (i := 0)))) (mss_one (ms_expr (me_append (me_var (i := 2)) me_non)))) (mss_one (ms_if (mt_cmp (op_eqM hr.units) os_eq (me_var (i := 3)) me_str (nomark _)) (mss_cons (ms_expr (me_meth (F_Cursor_seek c) hr (by decide) c.c_Cursor takesC (me_var (i := 0)) (ma_cons (me_var (i := 4)) ma_nil))) (mss_one (ms_expr (me_append (me_var (i := 2)) me_non)))) (mss_one (ms_if (mt_cmp (op_eqM hr.units) os_eq (me_var (i := 3)) me_str (nomark _)) (mss_one (ms_expr (me_append (me_var (i := 2)) (me_meth0 (F_Cursor_block_told c) hr (by decide) c.c_Cursor takesC (me_var (i := 0)))))) (mss_one (ms_if (mt_cmp (op_eqM hr.units) os_eq (me_var (i := 3)) me_str (nomark _)) (mss_one (ms_expr (me_append (me_var (i := 2)) (me_meth (F_Cursor_told_from c) hr (by decide) c.c_Cursor takesC (me_var (i := 0)) (ma_cons (me_var (i := 4)) ma_nil))))) (mss_one (ms_expr (me_append (me_var (i := 2)) (me_meth0 (F_Cursor_count c) hr (by decide) c.c_Cursor takesC (me_var (i := 0))))))))))))))))) (mss_one (ms_expr (me_append (me_var (i := 2)) (me_meth0 (F_Cursor_blocks_read c) hr (by decide) c.c_Cursor takesC (me_var (i := 0)))))))) (mss_one (ms_ret (me_var (i := 2))))))
theorem sc__law_due : FnScope ["postings", "tables", "block", "steps", "got", "at", "seen_blocks", "word", "number", "told", "there", "rows", "row"] ["postings", "tables", "block", "steps"] (defScope (tp 31)) := sc_of (by decide +kernel)
def t__law_due_1 : S → Res Bool := (mAndT (mBl (mBin opLt (mVar 5) (mFn1 fLen (mVar 0)))) (mBl (mBin opLt (mBin opIx (mBin opIx (mVar 0) (mVar 5)) (mC (.int 0))) (mVar 8))))
def l__law_due_2 : S → Res Out := (mSet 5 (mBin opAdd (mVar 5) (mC (.int 1))))
def c__law_due_3 : S → Res Bool := (mBl (mBin opGe (mBin opIx (mVar 12) (mC (.int 0))) (mVar 8)))
def l__law_due_4 : S → Res Out := (mSeq (mParN [9, 10] (mRCons (mC .non) (mRCons (mBin opLt (mVar 5) (mFn1 fLen (mVar 0))) mRNil))) (mSeq (mIfS (mAndT (mBl (mBin (opIn false) (mVar 7) (mTup (mACons (mC (.str "number")) (mACons (mC (.str "places")) (mACons (mC (.str "next")) mANil)))))) (mAndT (mTru (mVar 10)) (mBl (mBin (opIn true) (mBin opFdiv (mVar 5) (mVar 2)) (mVar 6))))) (mSet 6 (mBin opAdd (mVar 6) (mLst (mACons (mBin opFdiv (mVar 5) (mVar 2)) mANil)))) mNx) (mSeq (mIfS (mBl (mBin (opEq false) (mVar 7) (mC (.str "number")))) (mSet 9 (mIf (mTru (mVar 10)) (mBin opIx (mBin opIx (mVar 0) (mVar 5)) (mC (.int 0))) (mC .non))) (mIfS (mBl (mBin (opEq false) (mVar 7) (mC (.str "places")))) (mSet 9 (mIf (mTru (mVar 10)) (mBin opIx (mBin opIx (mVar 0) (mVar 5)) (mC (.int 1))) (mTup mANil))) (mIfS (mBl (mBin (opEq false) (mVar 7) (mC (.str "next")))) (mSet 5 (mIf (mTru (mVar 10)) (mBin opAdd (mVar 5) (mC (.int 1))) (mVar 5))) (mIfS (mBl (mBin (opEq false) (mVar 7) (mC (.str "seek")))) (mWhile t__law_due_1 l__law_due_2) (mIfS (mBl (mBin (opEq false) (mVar 7) (mC (.str "told")))) (mSet 9 (mIf (mTru (mVar 10)) (mBin opIx (mVar 1) (mBin opFdiv (mVar 5) (mVar 2))) (mC .non))) (mIfS (mBl (mBin (opEq false) (mVar 7) (mC (.str "from")))) (mSeq (mSet 11 (mComp [12] (iSeq (mVar 1)) (tgName 12) c__law_due_3 (mVar 12))) (mSet 9 (mIf (mBl (mBin (opEq true) (mVar 11) (mLst mANil))) (mBin opIx (mVar 11) (mC (.int 0))) (mC .non)))) (mSet 9 (mFn1 fLen (mVar 0))))))))) (mExpr (mLm1 fExtendA (mVar 4) (mLst (mACons (mVar 9) (mACons (mFn1 fLen (mVar 6)) mANil))))))))
def b__law_due : S → Res Out := (mSeq (mParN [4, 5, 6] (mRCons (mLst mANil) (mRCons (mC (.int 0)) (mRCons (mLst mANil) mRNil)))) (mSeq (mFor (iSeq (mVar 3)) (tgTup [7, 8]) l__law_due_4) (mRet (mTup (mACons (mVar 4) (mACons (mVar 6) mANil))))))
def f__law_due : Fm := mDef 4 13 b__law_due
theorem F__law_due (c : Fx P K mg) : FnM P w K mg base 1 "_law_due" ["postings", "tables", "block", "steps"] f__law_due := by
  refine fnM (N := ["postings", "tables", "block", "steps", "got", "at", "seen_blocks", "word", "number", "told", "there", "rows", "row"]) (m := b__law_due) c.d__law_due sc__law_due (by decide) (fun _ _ _ _ _ _ us hl => match us, hl with | [_, _, _, _], _ => rfl) fun f cdv A outer s H E hr => ?_
  have nd := (sc__law_due).nd
  exact (mss_cons (ms_par3 (i := 4) (j := 5) (l := 6) (by rfl) nd (mr_cons (me_lst ma_nil) (mr_cons me_int (mr_cons (me_lst ma_nil) mr_nil)))) (mss_cons (ms_for owns (by rfl) (mi_seq (me_var (i := 3))) (mg_tup (by rfl) (mgs_cons (i := 7) (mgs_cons (i := 8) mgs_nil nd) nd)) (mss_cons (ms_par (i := 9) (j := 10) (by rfl) nd (mr_cons me_non (mr_cons (me_lt (me_var (i := 5)) (me_len (me_var (i := 0)) (by rfl) c.g_len)) mr_nil))) (mss_cons (ms_if (mt_w (mw_and (mt_cmp (op_inM hr.units) os_in (me_var (i := 7)) (me_tup (ma_cons me_str (ma_cons me_str (ma_cons me_str ma_nil)))) (by rfl)) (mw_and (mt_val (me_var (i := 10))) (mw_and1 (mt_cmp (op_notInM hr.units) os_in (me_fdiv (me_var (i := 5)) (me_var (i := 2))) (me_var (i := 6)) (by rfl)))))) (mss_one (ms_set (i := 6) (me_add (me_var (i := 6)) (me_lst (ma_cons (me_fdiv (me_var (i := 5)) (me_var (i := 2))) ma_nil))) nd)) mss_nil) (mss_cons (ms_if (mt_cmp (op_eqM hr.units) os_eq (me_var (i := 7)) me_str (nomark _)) (mss_one (ms_set (i := 9) (me_if (mt_val (me_var (i := 10))) (me_ix (me_ix (me_var (i := 0)) (me_var (i := 5))) me_int) me_non) nd)) (mss_one (ms_if (mt_cmp (op_eqM hr.units) os_eq (me_var (i := 7)) me_str (nomark _)) (mss_one (ms_set (i := 9) (me_if (mt_val (me_var (i := 10))) (me_ix (me_ix (me_var (i := 0)) (me_var (i := 5))) me_int) (me_tup ma_nil)) nd)) (mss_one (ms_if (mt_cmp (op_eqM hr.units) os_eq (me_var (i := 7)) me_str (nomark _)) (mss_one (ms_set (i := 5) (me_if (mt_val (me_var (i := 10))) (me_add (me_var (i := 5)) me_int) (me_var (i := 5))) nd)) (mss_one (ms_if (mt_cmp (op_eqM hr.units) os_eq (me_var (i := 7)) me_str (nomark _)) (mss_one (ms_while owns (mt_w (mw_and (mt_cmp or_lt os_lt (me_var (i := 5)) (me_len (me_var (i := 0)) (by rfl) c.g_len) (nomark _)) (mw_and1 (mt_cmp or_lt os_lt (me_ix (me_ix (me_var (i := 0)) (me_var (i := 5))) me_int) (me_var (i := 8)) (nomark _))))) (mss_one (ms_set (i := 5) (me_add (me_var (i := 5)) me_int) nd)))) (mss_one (ms_if (mt_cmp (op_eqM hr.units) os_eq (me_var (i := 7)) me_str (nomark _)) (mss_one (ms_set (i := 9) (me_if (mt_val (me_var (i := 10))) (me_ix (me_var (i := 1)) (me_fdiv (me_var (i := 5)) (me_var (i := 2)))) me_non) nd)) (mss_one (ms_if (mt_cmp (op_eqM hr.units) os_eq (me_var (i := 7)) me_str (nomark _)) (mss_cons (ms_setComp (i := 11) (by rfl) nd (mi_seq (me_var (i := 1))) (blk_of (own := [("row", 12)]) (by rfl)) mgk_name (by decide) (fun _ _ _ _ _ => (mg_name nd).pg) (fun _ _ _ _ _ => (mts_one (mt_cmp or_ge os_ge (me_ix (me_var (i := 12)) me_int) (me_var (i := 8)) (nomark _)))) (fun _ _ _ _ _ => (me_var (i := 12)))) (mss_one (ms_set (i := 9) (me_if (mt_cmp (op_neM hr.units) os_eq (me_var (i := 11)) (me_lst ma_nil) (nomark _)) (me_ix (me_var (i := 11)) me_int) me_non) nd))) (mss_one (ms_set (i := 9) (me_len (me_var (i := 0)) (by rfl) c.g_len) nd))))))))))))) (mss_one (ms_expr (me_extendA (me_var (i := 4)) (me_lst (ma_cons (me_var (i := 9)) (ma_cons (me_len (me_var (i := 6)) (by rfl) c.g_len) ma_nil)))))))))) (mss_one (ms_ret (me_tup (ma_cons (me_var (i := 4)) (ma_cons (me_var (i := 6)) ma_nil)))))))
theorem sc_Cursor___init__ : FnScope ["self", "data"] ["self", "data"] (defScope (mt 22 0)) := sc_of (by decide +kernel)
def b_Cursor___init__ : S → Res Out := (mSeq (mSetFld "Cursor" "_data" (mVar 0) (mVar 1)) (mSeq (mUnpF (tgsCons (tgFld "Cursor" "_many" 0) (tgsCons (tgFld "Cursor" "_table" 0) tgsNil)) (mCall f_read_table (mACons (mVar 1) mANil))) (mSeq (mUnpF (tgsCons (tgFld "Cursor" "_block" 0) (tgsCons (tgFld "Cursor" "_least" 0) (tgsCons (tgFld "Cursor" "_opened" 0) tgsNil))) (mTup (mACons (mC (.int 0)) (mACons (mC (.int 0)) (mACons (mC .non) mANil))))) (mSetFld "Cursor" "_read" (mVar 0) (mC (.int 0))))))
def f_Cursor___init__ : Fm := mDef 2 2 b_Cursor___init__
theorem F_Cursor___init__ (c : Fx P K mg) : MkM P w K mg base 8 "Cursor" ["self", "data"] f_Cursor___init__ := by
  refine mkM (N := ["self", "data"]) (m := b_Cursor___init__) c.d_Cursor___init__ sc_Cursor___init__ (by decide) (fun _ _ _ _ _ _ us hl => match us, hl with | [_, _], _ => rfl) fun f cdv A outer s H E hr => ?_
  have nd := (sc_Cursor___init__).nd
  exact (mss_cons (ms_setFld c.c_Cursor c.n_Cursor__data (me_var (i := 0)) (me_var (i := 1))) (mss_cons (ms_unpF (by rfl) (me_fn (F_read_table c) hr (by decide) (by rfl) takesC (ma_cons (me_var (i := 1)) ma_nil)) (mgfs_cons (mgf_fld (i := 0) c.c_Cursor c.n_Cursor__many (me_var (i := 0))) (mgfs_cons (mgf_fld (i := 0) c.c_Cursor c.n_Cursor__table (me_var (i := 0))) mgfs_nil))) (mss_cons (ms_unpF (by rfl) (me_tup (ma_cons me_int (ma_cons me_int (ma_cons me_non ma_nil)))) (mgfs_cons (mgf_fld (i := 0) c.c_Cursor c.n_Cursor__block (me_var (i := 0))) (mgfs_cons (mgf_fld (i := 0) c.c_Cursor c.n_Cursor__least (me_var (i := 0))) (mgfs_cons (mgf_fld (i := 0) c.c_Cursor c.n_Cursor__opened (me_var (i := 0))) mgfs_nil)))) (mss_one (ms_setFld c.c_Cursor c.n_Cursor__read (me_var (i := 0)) me_int)))))
theorem sc_law : FnScope ["script", "box", "turn", "cursor", "block", "data", "parts", "tables", "steps", "hurt", "step", "postings", "lengths", "part", "told", "due", "seen_blocks", "k", "row", "got", "at", "place", "number", "places"] ["script"] (defScope (tp 32)) := sc_of (by decide +kernel)
def l_law_1 : S → Res Out := (mSeq (mExpr (mLm1 fAppend (mVar 19) (mTup (mACons (mMeth "Cursor" "number" f_Cursor_number (mVar 3) mANil) (mACons (mMeth "Cursor" "places" f_Cursor_places (mVar 3) mANil) mANil))))) (mExpr (mMeth "Cursor" "next" f_Cursor_next (mVar 3) mANil)))
def l_law_2 : S → Res Out := (mSetIx (mCall f__law_draw (mACons (mVar 1) (mACons (mC (.int 256)) mANil))) (mVar 9) (mVar 21))
def l_law_3 : S → Res Out := (mIfS (mBl (mBin (opIn true) (mVar 17) (mVar 16))) (mFor (iRange2 (mACons (mBin opIx (mVar 18) (mC (.int 3))) (mACons (mBin opAdd (mBin opIx (mVar 18) (mC (.int 3))) (mBin opIx (mVar 18) (mC (.int 4)))) mANil))) (tgName 21) l_law_2) mNx)
def e_law_4 : M := (mOrV (mBin opGt (mVar 22) (mBin opIx (mVar 14) (mC (.int 0)))) (mOrV (mBin opGt (mFn1 fLen (mVar 23)) (mBin opIx (mVar 14) (mC (.int 1)))) (mBin opLt (mBin opIx (mVar 12) (mVar 22)) (mBin opIx (mVar 14) (mC (.int 2))))))
def l_law_5 : S → Res Out := (mIfS (mTru (mFn1 fAny (mComp [22, 23] (iSeq (mVar 13)) (tgTup [22, 23]) mYes e_law_4))) (mRet (mC (.bl false))) mNx)
def e_law_6 : M := (mFn1 fLen (mVar 23))
def e_law_7 : M := (mBin opIx (mVar 12) (mVar 22))
def e_law_8 : M := (mTup (mACons (mBin opIx (mBin opIx (mVar 13) (mFn1 fNeg (mC (.int 1)))) (mC (.int 0))) (mACons (mFn1 (fFold maxL true) (mComp [22, 23] (iSeq (mVar 13)) (tgTup [22, 23]) mYes e_law_6)) (mACons (mFn1 (fFold minL true) (mComp [22, 23] (iSeq (mVar 13)) (tgTup [22, 23]) mYes e_law_7)) mANil))))
def e_law_9 : M := (mSlice (mVar 11) (mPart (mVar 20)) (mPart (mBin opAdd (mVar 20) (mVar 4))))
def l_law_10 : S → Res Out := (mSeq (mUnp [11, 12] (mCall f__law_postings (mACons (mVar 1) (mACons (mCall f__law_draw (mACons (mVar 1) (mACons (mC (.int 11)) mANil))) mANil)))) (mSeq (mSet 4 (mBin opAdd (mC (.int 1)) (mCall f__law_draw (mACons (mVar 1) (mACons (mC (.int 4)) mANil))))) (mSeq (mSet 5 (mCall f_write_postings (mACons (mVar 11) (mACons (mVar 12) (mACons (mVar 4) mANil))))) (mSeq (mSet 6 (mComp [20] (iRange3 (mACons (mC (.int 0)) (mACons (mFn1 fLen (mVar 11)) (mACons (mVar 4) mANil)))) (tgName 20) mYes e_law_9)) (mSeq (mSet 7 (mComp [13] (iSeq (mVar 6)) (tgName 13) mYes e_law_8)) (mSeq (mFor (iZipM (mACons (mVar 6) (mACons (mVar 7) mANil))) (tgTup [13, 14]) l_law_5) (mSeq (mSet 8 (mCall f__law_course (mACons (mVar 1) (mACons (mFn1 fLen (mVar 12)) mANil)))) (mSeq (mUnp [15, 16] (mCall f__law_due (mACons (mVar 11) (mACons (mVar 7) (mACons (mVar 4) (mACons (mVar 8) mANil)))))) (mSeq (mIfS (mNotT (mTru (mCall (f__law_same 6) (mACons (mCall f__law_told (mACons (mMake "Cursor" f_Cursor___init__ (mACons (mVar 5) mANil)) (mACons (mVar 8) mANil))) (mACons (mVar 15) mANil))))) (mRet (mC (.bl false))) mNx) (mSeq (mSet 9 (mFn1 fList (mVar 5))) (mSeq (mFor (iEnumM (mACons (mBin opIx (mCall f_read_table (mACons (mVar 5) mANil)) (mC (.int 1))) mANil)) (tgTup [17, 18]) l_law_3) (mSeq (mIfS (mNotT (mTru (mCall (f__law_same 6) (mACons (mCall f__law_told (mACons (mMake "Cursor" f_Cursor___init__ (mACons (mFn1 fTuple (mVar 9)) mANil)) (mACons (mVar 8) mANil))) (mACons (mVar 15) mANil))))) (mRet (mC (.bl false))) mNx) (mSeq (mParN [3, 19] (mRCons (mMake "Cursor" f_Cursor___init__ (mACons (mVar 5) mANil)) (mRCons (mLst mANil) mRNil))) (mSeq (mFor (iRange1 (mACons (mBin opAdd (mFn1 fLen (mVar 11)) (mC (.int 1))) mANil)) (tgName 10) l_law_1) (mIfS (mOrT (mNotT (mTru (mCall (f__law_same 6) (mACons (mVar 19) (mACons (mBin opAdd (mFn1 fList (mVar 11)) (mLst (mACons (mTup (mACons (mC .non) (mACons (mTup mANil) mANil))) mANil))) mANil))))) (mNotT (mTru (mCall (f__law_same 6) (mACons (mMeth "Cursor" "blocks_read" f_Cursor_blocks_read (mVar 3) mANil) (mACons (mFn1 fLen (mVar 6)) mANil)))))) (mRet (mC (.bl false))) mNx)))))))))))))))
def b_law : S → Res Out := (mSeq (mSet 1 (mCall f__law_box (mACons (mVar 0) mANil))) (mSeq (mFor (iRange1 (mACons (mC (.int 5)) mANil)) (tgName 2) l_law_10) (mSeq (mSet 3 (mMake "Cursor" f_Cursor___init__ (mACons (mCall f_write_postings (mACons (mTup (mACons (mTup (mACons (mC (.int 0)) (mACons (mTup (mACons (mC (.int 1)) mANil)) mANil))) (mACons (mTup (mACons (mC (.int 2)) (mACons (mTup (mACons (mC (.int 5)) mANil)) mANil))) (mACons (mTup (mACons (mC (.int 4)) (mACons (mTup (mACons (mC (.int 0)) mANil)) mANil))) (mACons (mTup (mACons (mC (.int 7)) (mACons (mTup (mACons (mC (.int 1)) (mACons (mC (.int 2)) mANil))) mANil))) mANil))))) (mACons (mTup (mACons (mC (.int 3)) (mACons (mC (.int 0)) (mACons (mC (.int 1)) (mACons (mC (.int 0)) (mACons (mC (.int 1)) (mACons (mC (.int 0)) (mACons (mC (.int 0)) (mACons (mC (.int 9)) mANil))))))))) (mACons (mC (.int 2)) mANil)))) mANil))) (mSeq (mExpr (mMeth "Cursor" "seek" f_Cursor_seek (mVar 3) (mACons (mC (.int 5)) mANil))) (mRet (mCall (f__law_same 6) (mACons (mTup (mACons (mMeth "Cursor" "blocks_read" f_Cursor_blocks_read (mVar 3) mANil) (mACons (mMeth "Cursor" "block_told" f_Cursor_block_told (mVar 3) mANil) (mACons (mMeth "Cursor" "number" f_Cursor_number (mVar 3) mANil) (mACons (mMeth "Cursor" "blocks_read" f_Cursor_blocks_read (mVar 3) mANil) mANil))))) (mACons (mTup (mACons (mC (.int 0)) (mACons (mTup (mACons (mC (.int 7)) (mACons (mC (.int 2)) (mACons (mC (.int 1)) mANil)))) (mACons (mC (.int 7)) (mACons (mC (.int 1)) mANil))))) mANil))))))))
def f_law : Fm := mDef 1 24 b_law
theorem F_law (c : Fx P K mg) : FnM P w K mg base 13 "law" ["script"] f_law := by
  refine fnM (N := ["script", "box", "turn", "cursor", "block", "data", "parts", "tables", "steps", "hurt", "step", "postings", "lengths", "part", "told", "due", "seen_blocks", "k", "row", "got", "at", "place", "number", "places"]) (m := b_law) c.d_law sc_law (by decide) (fun _ _ _ _ _ _ us hl => match us, hl with | [_], _ => rfl) fun f cdv A outer s H E hr => ?_
  have nd := (sc_law).nd
  exact (mss_cons (ms_set (i := 1) (me_fn (F__law_box c) hr (by decide) (by rfl) takesC (ma_cons (me_var (i := 0)) ma_nil)) nd) (mss_cons (ms_for owns (by rfl) (mi_range1 (ma_cons me_int ma_nil) (by rfl) c.g_range) (mg_name nd) (mss_cons (ms_unp (by rfl) (me_fn (F__law_postings c) hr (by decide) (by rfl) takesC (ma_cons (me_var (i := 1)) (ma_cons (me_fn (F__law_draw c) hr (by decide) (by rfl) takesC (ma_cons (me_var (i := 1)) (ma_cons me_int ma_nil))) ma_nil))) (mgs_cons (i := 11) (mgs_cons (i := 12) mgs_nil nd) nd)) (mss_cons (ms_set (i := 4) (me_add me_int (me_fn (F__law_draw c) hr (by decide) (by rfl) takesC (ma_cons (me_var (i := 1)) (ma_cons me_int ma_nil)))) nd) (mss_cons (ms_set (i := 5) (me_fn (F_write_postings c) hr (by decide) (by rfl) takesC (ma_cons (me_var (i := 11)) (ma_cons (me_var (i := 12)) (ma_cons (me_var (i := 4)) ma_nil)))) nd) (mss_cons (ms_setComp (i := 6) (by rfl) nd (mi_range3 (ma_cons me_int (ma_cons (me_len (me_var (i := 11)) (by rfl) c.g_len) (ma_cons (me_var (i := 4)) ma_nil))) (by rfl) c.g_range) (blk_of (own := [("at", 20)]) (by rfl)) mgk_name (by decide) (fun _ _ _ _ _ => (mg_name nd).pg) (fun _ _ _ _ _ => mts_nil) (fun _ _ _ _ _ => (me_slice (me_var (i := 11)) (mo_some (me_var (i := 20))) (mo_some (me_add (me_var (i := 20)) (me_var (i := 4))))))) (mss_cons (ms_setComp (i := 7) (by rfl) nd (mi_seq (me_var (i := 6))) (blk_of (own := [("part", 13)]) (by rfl)) mgk_name (by decide) (fun _ _ _ _ _ => (mg_name nd).pg) (fun _ _ _ _ _ => mts_nil) (fun _ _ _ _ _ => (me_tup (ma_cons (me_ix (me_ix (me_var (i := 13)) (me_neg me_int)) me_int) (ma_cons (me_maxL (by rfl) (me_comp (by rfl) nd (mi_seq (me_var (i := 13))) (blk_of (own := [("number", 22), ("places", 23)]) (by rfl)) mgk_tup (by decide) (fun _ _ _ _ _ => (mg_tup (by rfl) (mgs_cons (i := 22) (mgs_cons (i := 23) mgs_nil nd) nd)).pg) (fun _ _ _ _ _ => mts_nil) (fun _ _ _ _ _ => (me_len (me_var (i := 23)) (by rfl) c.g_len))) (by rfl) c.g_max) (ma_cons (me_minL (by rfl) (me_comp (by rfl) nd (mi_seq (me_var (i := 13))) (blk_of (own := [("number", 22), ("places", 23)]) (by rfl)) mgk_tup (by decide) (fun _ _ _ _ _ => (mg_tup (by rfl) (mgs_cons (i := 22) (mgs_cons (i := 23) mgs_nil nd) nd)).pg) (fun _ _ _ _ _ => mts_nil) (fun _ _ _ _ _ => (me_ix (me_var (i := 12)) (me_var (i := 22))))) (by rfl) c.g_min) ma_nil)))))) (mss_cons (ms_for owns (by rfl) (mi_zip (ma_cons (me_var (i := 6)) (ma_cons (me_var (i := 7)) ma_nil)) (by rfl) c.g_zip) (mg_tup (by rfl) (mgs_cons (i := 13) (mgs_cons (i := 14) mgs_nil nd) nd)) (mss_one (ms_if (mt_val (me_any (by rfl) (me_comp (by rfl) nd (mi_seq (me_var (i := 13))) (blk_of (own := [("number", 22), ("places", 23)]) (by rfl)) mgk_tup (by decide) (fun _ _ _ _ _ => (mg_tup (by rfl) (mgs_cons (i := 22) (mgs_cons (i := 23) mgs_nil nd) nd)).pg) (fun _ _ _ _ _ => mts_nil) (fun _ _ _ _ _ => (me_or (me_gt (me_var (i := 22)) (me_ix (me_var (i := 14)) me_int)) (me_or (me_gt (me_len (me_var (i := 23)) (by rfl) c.g_len) (me_ix (me_var (i := 14)) me_int)) (me_one (me_lt (me_ix (me_var (i := 12)) (me_var (i := 22))) (me_ix (me_var (i := 14)) me_int))))))) (by rfl) c.g_any)) (mss_one (ms_ret me_bl)) mss_nil))) (mss_cons (ms_set (i := 8) (me_fn (F__law_course c) hr (by decide) (by rfl) takesC (ma_cons (me_var (i := 1)) (ma_cons (me_len (me_var (i := 12)) (by rfl) c.g_len) ma_nil))) nd) (mss_cons (ms_unp (by rfl) (me_fn (F__law_due c) hr (by decide) (by rfl) takesC (ma_cons (me_var (i := 11)) (ma_cons (me_var (i := 7)) (ma_cons (me_var (i := 4)) (ma_cons (me_var (i := 8)) ma_nil))))) (mgs_cons (i := 15) (mgs_cons (i := 16) mgs_nil nd) nd)) (mss_cons (ms_if (mt_not (mt_val (me_fn (F__law_same c 6) hr (by decide) (by rfl) takesC (ma_cons (me_fn (F__law_told c) hr (by decide) (by rfl) takesC (ma_cons (me_make (F_Cursor___init__ c) hr (by decide) (by rfl) takesC (ma_cons (me_var (i := 5)) ma_nil)) (ma_cons (me_var (i := 8)) ma_nil))) (ma_cons (me_var (i := 15)) ma_nil))))) (mss_one (ms_ret me_bl)) mss_nil) (mss_cons (ms_set (i := 9) (me_list (me_var (i := 5)) (by rfl) c.g_list) nd) (mss_cons (ms_for owns (by rfl) (mi_enum (ma_cons (me_ix (me_fn (F_read_table c) hr (by decide) (by rfl) takesC (ma_cons (me_var (i := 5)) ma_nil)) me_int) ma_nil) (by rfl) c.g_enumerate) (mg_tup (by rfl) (mgs_cons (i := 17) (mgs_cons (i := 18) mgs_nil nd) nd)) (mss_one (ms_if (mt_cmp (op_notInM hr.units) os_in (me_var (i := 17)) (me_var (i := 16)) (by rfl)) (mss_one (ms_for owns (by rfl) (mi_range2 (ma_cons (me_ix (me_var (i := 18)) me_int) (ma_cons (me_add (me_ix (me_var (i := 18)) me_int) (me_ix (me_var (i := 18)) me_int)) ma_nil)) (by rfl) c.g_range) (mg_name nd) (mss_one (ms_setIx (me_fn (F__law_draw c) hr (by decide) (by rfl) takesC (ma_cons (me_var (i := 1)) (ma_cons me_int ma_nil))) (me_var (i := 9)) (me_var (i := 21)))))) mss_nil))) (mss_cons (ms_if (mt_not (mt_val (me_fn (F__law_same c 6) hr (by decide) (by rfl) takesC (ma_cons (me_fn (F__law_told c) hr (by decide) (by rfl) takesC (ma_cons (me_make (F_Cursor___init__ c) hr (by decide) (by rfl) takesC (ma_cons (me_tuple (me_var (i := 9)) (by rfl) c.g_tuple) ma_nil)) (ma_cons (me_var (i := 8)) ma_nil))) (ma_cons (me_var (i := 15)) ma_nil))))) (mss_one (ms_ret me_bl)) mss_nil) (mss_cons (ms_par (i := 3) (j := 19) (by rfl) nd (mr_cons (me_make (F_Cursor___init__ c) hr (by decide) (by rfl) takesC (ma_cons (me_var (i := 5)) ma_nil)) (mr_cons (me_lst ma_nil) mr_nil))) (mss_cons (ms_for owns (by rfl) (mi_range1 (ma_cons (me_add (me_len (me_var (i := 11)) (by rfl) c.g_len) me_int) ma_nil) (by rfl) c.g_range) (mg_name nd) (mss_cons (ms_expr (me_append (me_var (i := 19)) (me_tup (ma_cons (me_meth0 (F_Cursor_number c) hr (by decide) c.c_Cursor takesC (me_var (i := 3))) (ma_cons (me_meth0 (F_Cursor_places c) hr (by decide) c.c_Cursor takesC (me_var (i := 3))) ma_nil))))) (mss_one (ms_expr (me_meth0 (F_Cursor_next c) hr (by decide) c.c_Cursor takesC (me_var (i := 3))))))) (mss_one (ms_if (mt_w (mw_or (mt_not (mt_val (me_fn (F__law_same c 6) hr (by decide) (by rfl) takesC (ma_cons (me_var (i := 19)) (ma_cons (me_add (me_list (me_var (i := 11)) (by rfl) c.g_list) (me_lst (ma_cons (me_tup (ma_cons me_non (ma_cons (me_tup ma_nil) ma_nil))) ma_nil))) ma_nil))))) (mw_or1 (mt_not (mt_val (me_fn (F__law_same c 6) hr (by decide) (by rfl) takesC (ma_cons (me_meth0 (F_Cursor_blocks_read c) hr (by decide) c.c_Cursor takesC (me_var (i := 3))) (ma_cons (me_len (me_var (i := 6)) (by rfl) c.g_len) ma_nil)))))))) (mss_one (ms_ret me_bl)) mss_nil))))))))))))))))) (mss_cons (ms_set (i := 3) (me_make (F_Cursor___init__ c) hr (by decide) (by rfl) takesC (ma_cons (me_fn (F_write_postings c) hr (by decide) (by rfl) takesC (ma_cons (me_tup (ma_cons (me_tup (ma_cons me_int (ma_cons (me_tup (ma_cons me_int ma_nil)) ma_nil))) (ma_cons (me_tup (ma_cons me_int (ma_cons (me_tup (ma_cons me_int ma_nil)) ma_nil))) (ma_cons (me_tup (ma_cons me_int (ma_cons (me_tup (ma_cons me_int ma_nil)) ma_nil))) (ma_cons (me_tup (ma_cons me_int (ma_cons (me_tup (ma_cons me_int (ma_cons me_int ma_nil))) ma_nil))) ma_nil))))) (ma_cons (me_tup (ma_cons me_int (ma_cons me_int (ma_cons me_int (ma_cons me_int (ma_cons me_int (ma_cons me_int (ma_cons me_int (ma_cons me_int ma_nil))))))))) (ma_cons me_int ma_nil)))) ma_nil)) nd) (mss_cons (ms_expr (me_meth (F_Cursor_seek c) hr (by decide) c.c_Cursor takesC (me_var (i := 3)) (ma_cons me_int ma_nil))) (mss_one (ms_ret (me_fn (F__law_same c 6) hr (by decide) (by rfl) takesC (ma_cons (me_tup (ma_cons (me_meth0 (F_Cursor_blocks_read c) hr (by decide) c.c_Cursor takesC (me_var (i := 3))) (ma_cons (me_meth0 (F_Cursor_block_told c) hr (by decide) c.c_Cursor takesC (me_var (i := 3))) (ma_cons (me_meth0 (F_Cursor_number c) hr (by decide) c.c_Cursor takesC (me_var (i := 3))) (ma_cons (me_meth0 (F_Cursor_blocks_read c) hr (by decide) c.c_Cursor takesC (me_var (i := 3))) ma_nil))))) (ma_cons (me_tup (ma_cons me_int (ma_cons (me_tup (ma_cons me_int (ma_cons me_int (ma_cons me_int ma_nil)))) (ma_cons me_int (ma_cons me_int ma_nil))))) ma_nil)))))))))
end
end K21
/-! # k21: numbers, signs, the box, same (as in the k18 texts) -/
namespace K21
open PySem PySem.Spec PyProof.Rows L2 MI

/-! ### numbers -/
def digs : Nat → List Int
  | 0 => []
  | n + 1 => digs ((n + 1) / 128) ++ [(((n + 1) % 128 : Nat) : Int)]
termination_by n => n
decreasing_by omega
theorem digs_0 : digs 0 = [] := by rw [digs]
theorem digs_pos (n : Nat) (h : 0 < n) : digs n = digs (n / 128) ++ [((n % 128 : Nat) : Int)] := by
  cases n with
  | zero => omega
  | succ n => rw [digs]
def num (n : Int) : List Int := digs (n.toNat / 128) ++ [128 + n % 128]
theorem digs_head : ∀ m : Nat, (digs m).head? ≠ some 0 := by
  intro m
  induction m using Nat.strongRecOn with
  | ind m ih =>
    by_cases h : m = 0
    · rw [h, digs_0]; simp
    · rw [digs_pos m (by omega)]
      by_cases h2 : m / 128 = 0
      · rw [h2, digs_0]
        simp
        omega
      · have := ih (m / 128) (by omega)
        cases e : digs (m / 128) with
        | nil => rw [digs_pos _ (by omega)] at e; simp at e
        | cons a l => rw [e] at this; simpa using this
theorem num_head (n : Int) (h : 0 ≤ n) : (num n).head? ≠ some 0 := by
  unfold num
  cases e : digs (n.toNat / 128) with
  | nil => simp; omega
  | cons a l =>
    have := digs_head (n.toNat / 128)
    rw [e] at this
    simpa using this
def rdN : List Int → Int → Option (Int × List Int)
  | [], _ => none
  | b :: r, f => if 128 ≤ b then some (f * 128 + b - 128, r) else rdN r (f * 128 + b)
theorem rdN_digs (m : Nat) : ∀ s : List Int, rdN (digs m ++ s) 0 = rdN s m := by
  induction m using Nat.strongRecOn with
  | ind m ih =>
    intro s
    by_cases h : m = 0
    · rw [h, digs_0]; rfl
    · rw [digs_pos m (by omega), List.append_assoc, ih (m / 128) (by omega)]
      show rdN (((m % 128 : Nat) : Int) :: s) _ = _
      rw [rdN, if_neg (by omega)]
      congr 1
      omega
theorem rdN_num (h : Int) (h0 : 0 ≤ h) (s : List Int) : rdN (num h ++ s) 0 = some (h, s) := by
  unfold num
  rw [List.append_assoc, rdN_digs]
  show rdN ((128 + h % 128) :: s) _ = _
  rw [rdN, if_pos (by omega)]
  congr 2
  omega
def rd : List Int → Sum (Int × List Int) Nat
  | [] => .inr 0
  | b :: r => if b = 0 then .inr (r.length + 1) else match rdN (b :: r) 0 with
    | some x => .inl x
    | none => .inr 0
theorem num_cons (h : Int) (h0 : 0 ≤ h) : ∃ b r, num h = b :: r ∧ b ≠ 0 := by
  have := num_head h h0
  cases e : num h with
  | nil => unfold num at e; simp at e
  | cons b r =>
    rw [e] at this
    exact ⟨b, r, rfl, fun z => this (by rw [z]; rfl)⟩
theorem rd_num (h : Int) (h0 : 0 ≤ h) (s : List Int) : rd (num h ++ s) = .inl (h, s) := by
  obtain ⟨b, r, e, hb⟩ := num_cons h h0
  have z := rdN_num h h0 s
  rw [e] at z ⊢
  show (if b = 0 then _ else match rdN (b :: (r ++ s)) 0 with | some x => _ | none => _) = _
  rw [if_neg hb]
  have z' : rdN (b :: (r ++ s)) 0 = some (h, s) := z
  rw [z']
def Byt (d : List Int) : Prop := ∀ b ∈ d, 0 ≤ b ∧ b < 256
theorem rdN_inv : ∀ (d : List Int) (f : Nat) (h : Int) (r : List Int), Byt d → (0 < f ∨ d.head? ≠ some 0) → rdN d f = some (h, r) → digs f ++ d = num h ++ r ∧ 0 ≤ h
  | [], _, _, _, _, _, e => by cases e
  | b :: d, f, h, r, hb, h0, e => by
    obtain ⟨b0, b1⟩ := hb b List.mem_cons_self
    unfold rdN at e
    split at e
    · cases e
      refine ⟨?_, by omega⟩
      unfold num
      have e1 : ((f : Int) * 128 + b - 128).toNat / 128 = f := by omega
      have e2 : 128 + ((f : Int) * 128 + b - 128) % 128 = b := by omega
      rw [e1, e2, List.append_assoc]
      rfl
    · rename_i hlt
      have z : (f : Int) * 128 + b = ((f * 128 + b.toNat : Nat) : Int) := by omega
      rw [z] at e
      have pos : 0 < f * 128 + b.toNat := by
        rcases h0 with h0 | h0
        · omega
        · have : b ≠ 0 := fun q => h0 (by rw [q]; rfl)
          omega
      obtain ⟨h1, h2⟩ := rdN_inv d _ h r (fun x m => hb x (List.mem_cons_of_mem _ m)) (.inl pos) e
      refine ⟨?_, h2⟩
      rw [← h1, digs_pos _ pos]
      have e1 : (f * 128 + b.toNat) / 128 = f := by omega
      have e2 : (((f * 128 + b.toNat) % 128 : Nat) : Int) = b := by omega
      rw [e1, e2, List.append_assoc]
      rfl
theorem rd_inv (d : List Int) (h : Int) (r : List Int) (hb : Byt d) (e : rd d = .inl (h, r)) : d = num h ++ r ∧ 0 ≤ h := by
  cases d with
  | nil => cases e
  | cons b d =>
    have e : (if b = 0 then Sum.inr (d.length + 1) else match rdN (b :: d) 0 with | some x => Sum.inl x | none => Sum.inr 0) = Sum.inl (h, r) := e
    split at e
    · cases e
    · rename_i hb0
      cases q : rdN (b :: d) 0 with
      | none => rw [q] at e; cases e
      | some z =>
        rw [q] at e
        cases e
        have := rdN_inv (b :: d) 0 h r hb (.inr fun z => hb0 (by simpa using z)) q
        rwa [digs_0, List.nil_append] at this
def big (d : List Int) : Nat := d.countP fun b => decide (128 ≤ b)
theorem big_app (a b : List Int) : big (a ++ b) = big a + big b := List.countP_append ..
theorem big_low (a : List Int) (h : ∀ b ∈ a, b < 128) : big a = 0 := by
  unfold big
  rw [List.countP_eq_zero]
  intro b hb
  have := h b hb
  simp
  omega
theorem digs_lt (m : Nat) : ∀ b ∈ digs m, 0 ≤ b ∧ b < 128 := by
  induction m using Nat.strongRecOn with
  | ind m ih =>
    by_cases h : m = 0
    · rw [h, digs_0]; simp
    · rw [digs_pos m (by omega)]
      intro b hb
      rcases List.mem_append.mp hb with hb | hb
      · exact ih _ (by omega) b hb
      · simp at hb
        omega
theorem big_num (n : Int) : big (num n) = 1 := by
  unfold num
  rw [big_app, big_low _ fun b hb => (digs_lt _ b hb).2]
  have : (0 : Int) ≤ n % 128 := Int.emod_nonneg _ (by omega)
  simp [big]
  omega
theorem digs_len : ∀ (k m : Nat), m < 128 ^ k → (digs m).length ≤ k
  | 0, m, h => by
    have : m = 0 := by simpa using h
    rw [this, digs_0]; simp
  | k + 1, m, h => by
    by_cases z : m = 0
    · rw [z, digs_0]; simp
    · rw [digs_pos m (by omega), List.length_append]
      have := digs_len k (m / 128) (by rw [Nat.pow_succ] at h; exact Nat.div_lt_of_lt_mul (by omega))
      simp
      omega
theorem num_bytes (n : Int) : Byt (num n) := by
  intro b hb
  unfold num at hb
  rcases List.mem_append.mp hb with hb | hb
  · have := digs_lt _ b hb
    omega
  · simp at hb
    have h1 : (0 : Int) ≤ n % 128 := Int.emod_nonneg _ (by omega)
    have h2 : n % 128 < 128 := Int.emod_lt_of_pos _ (by omega)
    omega
theorem byt_app {a b : List Int} (h : Byt a) (h2 : Byt b) : Byt (a ++ b) := fun x m => by
  rcases List.mem_append.mp m with m | m
  · exact h x m
  · exact h2 x m
theorem byt_left {a b : List Int} (h : Byt (a ++ b)) : Byt a := fun x m => h x (List.mem_append_left _ m)
theorem byt_right {a b : List Int} (h : Byt (a ++ b)) : Byt b := fun x m => h x (List.mem_append_right _ m)
theorem num_ne (n : Int) : num n ≠ [] := by unfold num; simp
/-! ### texts -/
def SG : Str := " ,-.0123456789abcdefghijklmnopqrstuvwxyz"
def sgn (i : Int) : Nat := SG.cps.toList.getD i.toNat 0
def sing (c : Nat) : Str := ⟨#[c]⟩
def txt (l : List Int) : Str := ⟨(l.map sgn).toArray⟩
def Sgs (l : List Int) : Prop := ∀ b ∈ l, 0 ≤ b ∧ b < 40
theorem sgn_inj0 : ∀ i j : Fin 40, SG.cps.toList.getD i.val 0 = SG.cps.toList.getD j.val 0 → i = j := by decide +kernel
theorem sgn_inj {i j : Int} (h0 : 0 ≤ i) (h1 : i < 40) (h2 : 0 ≤ j) (h3 : j < 40) (e : sgn i = sgn j) : i = j := by
  have := sgn_inj0 ⟨i.toNat, by omega⟩ ⟨j.toNat, by omega⟩ e
  have := congrArg Fin.val this
  simp at this
  omega
theorem txt_inj {l m : List Int} (hl : Sgs l) (hm : Sgs m) (e : txt l = txt m) : l = m := by
  have e1 : l.map sgn = m.map sgn := by
    have := congrArg (fun z : Str => z.cps.toList) e
    simpa [txt] using this
  clear e
  induction l generalizing m with
  | nil => cases m with
    | nil => rfl
    | cons => cases e1
  | cons a l ih => cases m with
    | nil => cases e1
    | cons b m =>
      simp only [List.map_cons, List.cons.injEq] at e1
      obtain ⟨a0, a1⟩ := hl a List.mem_cons_self
      obtain ⟨b0, b1⟩ := hm b List.mem_cons_self
      rw [sgn_inj a0 a1 b0 b1 e1.1, ih (fun x h => hl x (List.mem_cons_of_mem _ h)) (fun x h => hm x (List.mem_cons_of_mem _ h)) e1.2]
def sgs : Nat → List Int → Sum (List Int × List Int) Nat
  | 0, r => .inl ([], r)
  | _ + 1, [] => .inr 0
  | n + 1, b :: r => if 40 ≤ b then .inr (r.length + 1) else match sgs n r with
    | .inl (s, r') => .inl (b :: s, r')
    | .inr e => .inr e
theorem sgs_app : ∀ (l r : List Int), (∀ b ∈ l, b < 40) → sgs l.length (l ++ r) = .inl (l, r)
  | [], _, _ => rfl
  | b :: l, r, h => by
    have hb := h b List.mem_cons_self
    have ih := sgs_app l r fun x m => h x (List.mem_cons_of_mem _ m)
    show (if 40 ≤ b then _ else match sgs l.length (l ++ r) with | .inl (s, r') => _ | .inr e => _) = _
    rw [if_neg (by omega), ih]
theorem sgs_inl : ∀ (n : Nat) (r s r' : List Int), sgs n r = .inl (s, r') → r = s ++ r' ∧ s.length = n ∧ ∀ b ∈ s, b < 40
  | 0, r, s, r', e => by cases e; exact ⟨rfl, rfl, by simp⟩
  | _ + 1, [], _, _, e => by cases e
  | n + 1, b :: r, s, r', e => by
    unfold sgs at e
    split at e
    · cases e
    · rename_i hb
      cases q : sgs n r with
      | inr z => rw [q] at e; cases e
      | inl z =>
        obtain ⟨s1, r1⟩ := z
        rw [q] at e
        cases e
        obtain ⟨h1, h2, h3⟩ := sgs_inl n r s1 r' q
        refine ⟨by rw [h1]; rfl, by simp [h2], fun x m => ?_⟩
        rcases List.mem_cons.mp m with rfl | m
        · omega
        · exact h3 x m

theorem nb_loop (gl : List MObj) (m : Nat) : ∀ (acc : List Int), acc.length + (digs m).length ≤ 900000 → ∃ N, whileGo t_number_bytes_1 l_number_bytes_2 N ⟨[.val (.int m), .own (.lst (IL acc))], gl⟩ = .ok .nx ⟨[.val (.int 0), .own (.lst (IL (acc ++ (digs m).reverse)))], gl⟩ := by
  induction m using Nat.strongRecOn with
  | ind m ih =>
    intro acc hl
    by_cases h : m = 0
    · subst h
      rw [digs_0, List.reverse_nil, List.append_nil]
      exact wh_stop (by simp [t_number_bytes_1])
    · have e := digs_pos m (by omega)
      have hl2 : acc.length + (digs (m / 128)).length + 1 ≤ 900000 := by rw [e] at hl; simp at hl; omega
      have hp : 0 < (m : Int) := by omega
      refine wh_step (s1 := ⟨[.val (.int m), .own (.lst (IL acc))], gl⟩) (s2 := ⟨[.val (.int ((m / 128 : Nat) : Int)), .own (.lst (IL (acc ++ [((m % 128 : Nat) : Int)])))], gl⟩) (by simp [t_number_bytes_1]; omega) ?_ ?_
      · have e1 : ((m / 128 : Nat) : Int) = (m : Int) / 128 := by omega
        have e2 : ((m % 128 : Nat) : Int) = (m : Int) % 128 := by omega
        rw [e1, e2]
        have fa := fApp_ok (IL acc) (.int ((m : Int) % 128)) (by rw [List.length_map]; omega)
        simp [l_number_bytes_2, q_mod, q_fdiv, as_d, fa]
      · obtain ⟨N, hN⟩ := ih (m / 128) (by omega) (acc ++ [((m % 128 : Nat) : Int)]) (by simp; omega)
        refine ⟨N, hN.trans ?_⟩
        rw [e]
        simp
theorem number_bytes_spec (n : Int) (gl : List MObj) (h0 : 0 ≤ n) (hl : (num n).length ≤ 900000) : f_number_bytes [.int n] gl = .ok (.lst (IL (num n))) gl := by
  have hl' : (digs (n.toNat / 128)).length + 1 ≤ 900000 := by unfold num at hl; simpa using hl
  have w := wh_done (nb_loop gl (n.toNat / 128) [128 + n % 128] (by simp; omega)) (by simp)
  have e1 : ((n.toNat / 128 : Nat) : Int) = n / 128 := by omega
  rw [e1] at w
  simp at w
  simp [f_number_bytes, mDef, b_number_bytes, q_mod, q_fdiv, as_d, as_new, w, num, opRev, asInt, asTup, asLst]
/-! ### places -/
/-- where r begins in d -/
def pos (d r : List Int) : Int := (d.length : Int) - r.length
theorem pos_next (d r : List Int) (b : Int) : pos d (b :: r) + 1 = pos d r := by unfold pos; simp; omega
theorem pos_nil (d : List Int) : pos d [] = d.length := by unfold pos; simp
theorem pos_lo {d r : List Int} (h : r <:+ d) : 0 ≤ pos d r ∧ pos d r ≤ d.length := by
  have := h.length_le
  unfold pos
  omega
theorem pos_get {d r : List Int} {b : Int} (h : (b :: r) <:+ d) : d[(pos d (b :: r)).toNat]? = some b := by
  obtain ⟨pre, rfl⟩ := h
  have : (pos (pre ++ b :: r) (b :: r)).toNat = pre.length := by unfold pos; simp
  rw [this]
  simp
theorem pos_lt {d r : List Int} {b : Int} (h : (b :: r) <:+ d) : pos d (b :: r) < d.length := by
  unfold pos
  simp only [List.length_cons]
  omega
theorem suf_tl {d r : List Int} {b : Int} (h : (b :: r) <:+ d) : r <:+ d := (List.suffix_cons b r).trans h
theorem suf_app {d c r : List Int} (h : (c ++ r) <:+ d) : r <:+ d := (List.suffix_append c r).trans h
abbrev bad (d : List Int) (e : Nat) : D := .tup [.str "place", .int ((d.length : Int) - e)]
theorem byte_ok {d r : List Int} {b : Int} (gl : List MObj) (h : (b :: r) <:+ d) : f_byte_at [.tup (IL d), .int (pos d (b :: r))] gl = .ok (.int b) gl := by
  have hp : ¬ (d.length : Int) ≤ pos d (b :: r) := by have := pos_lt h; omega
  have ix : ∀ s, opIx s (.d (.tup (IL d))) (.d (.int (pos d (b :: r)))) = .ok (.d (.int b)) s := fun s => q_ixT (atI_il (pos_lo h).1 (pos_get h))
  simp [f_byte_at, mDef, b_byte_at, hp, ix]
theorem byte_exc (d : List Int) (gl : List MObj) (hd : d.length ≤ 100000) : f_byte_at [.tup (IL d), .int (pos d [])] gl = .exc "BadBytes" (bad d 0) gl := by
  have h2 : d.length ≤ 1000000 := by omega
  simp [f_byte_at, mDef, b_byte_at, pos_nil, h2, bad]
theorem rd_loop (d : List Int) (gl : List MObj) (hd : d.length ≤ 100000) : ∀ (r : List Int) (b f : Int), (b :: r) <:+ d →
    match rdN (b :: r) f with
    | some (n, r') => r' <:+ d ∧ ∃ f' b', (∃ N, whileGo t_read_number_1 l_read_number_2 N ⟨[.val (.tup (IL d)), .val (.int (pos d (b :: r))), .val (.int f), .val (.int b)], gl⟩ = .ok .nx ⟨[.val (.tup (IL d)), .val (.int (pos d (b' :: r'))), .val (.int f'), .val (.int b')], gl⟩) ∧ f' * 128 + b' - 128 = n
    | none => ∃ e, ∃ N, whileGo t_read_number_1 l_read_number_2 N ⟨[.val (.tup (IL d)), .val (.int (pos d (b :: r))), .val (.int f), .val (.int b)], gl⟩ = .exc "BadBytes" (bad d 0) ⟨e, gl⟩
  | r, b, f, hs => by
    by_cases h : 128 ≤ b
    · have hb : ¬ b < 128 := by omega
      simp only [rdN, h, if_true]
      exact ⟨suf_tl hs, f, b, wh_stop (by simp [t_read_number_1, hb]), rfl⟩
    · have hb : b < 128 := by omega
      simp only [rdN, h, if_false]
      cases r with
      | nil =>
        have e1 := byte_exc d gl hd
        refine ⟨_, wh_exc (s1 := ⟨[.val (.tup (IL d)), .val (.int (pos d [b])), .val (.int f), .val (.int b)], gl⟩) (by simp [t_read_number_1, hb]) (s2 := ⟨[.val (.tup (IL d)), .val (.int (pos d [])), .val (.int (f * 128 + b)), .val (.int b)], gl⟩) ?_⟩
        simp [l_read_number_2, q_mulR, as_d, pos_next, e1]
      | cons c r =>
        have e1 := byte_ok gl (suf_tl hs)
        have ih := rd_loop d gl hd r c (f * 128 + b) (suf_tl hs)
        have lb : l_read_number_2 ⟨[.val (.tup (IL d)), .val (.int (pos d (b :: c :: r))), .val (.int f), .val (.int b)], gl⟩ = .ok .nx ⟨[.val (.tup (IL d)), .val (.int (pos d (c :: r))), .val (.int (f * 128 + b)), .val (.int c)], gl⟩ := by
          simp [l_read_number_2, q_mulR, as_d, pos_next, e1]
        have lt : t_read_number_1 ⟨[.val (.tup (IL d)), .val (.int (pos d (b :: c :: r))), .val (.int f), .val (.int b)], gl⟩ = .ok true ⟨[.val (.tup (IL d)), .val (.int (pos d (b :: c :: r))), .val (.int f), .val (.int b)], gl⟩ := by
          simp [t_read_number_1, hb]
        cases q : rdN (c :: r) (f * 128 + b) with
        | none =>
          rw [q] at ih
          obtain ⟨e, h⟩ := ih
          exact ⟨e, wh_step lt lb h⟩
        | some nq =>
          rw [q] at ih
          obtain ⟨h0, f', b', h1, h2⟩ := ih
          exact ⟨h0, f', b', wh_step lt lb h1, h2⟩
theorem read_number_spec {d r : List Int} (gl : List MObj) (hd : d.length ≤ 100000) (h : r <:+ d) : match rd r with
    | .inl (n, r') => r' <:+ d ∧ f_read_number [.tup (IL d), .int (pos d r)] gl = .ok (.tup [.int n, .int (pos d r')]) gl
    | .inr e => e ≤ r.length ∧ f_read_number [.tup (IL d), .int (pos d r)] gl = .exc "BadBytes" (bad d e) gl := by
  cases r with
  | nil =>
    have e1 := byte_exc d gl hd
    refine ⟨Nat.zero_le _, ?_⟩
    simp [f_read_number, mDef, List.replicate, b_read_number, e1]
  | cons b r =>
    have e1 := byte_ok gl h
    by_cases hb : b = 0
    · subst hb
      have p1 := pos_lo h
      have p2 : (pos d (0 :: r)).natAbs ≤ 1000000 := by omega
      have p3 : pos d (0 :: r) = (d.length : Int) - ((r.length + 1 : Nat) : Int) := rfl
      simp only [rd, if_true]
      refine ⟨Nat.le_refl _, ?_⟩
      simp [f_read_number, mDef, List.replicate, b_read_number, e1, as_d, p2, bad]
      rw [p3]
      simp
    · have hl := rd_loop d gl hd r b 0 h
      simp only [rd, hb, if_false]
      cases q : rdN (b :: r) 0 with
      | none =>
        rw [q] at hl
        obtain ⟨e, h⟩ := hl
        have w := wh_done h (by simp)
        refine ⟨Nat.zero_le _, ?_⟩
        simp [f_read_number, mDef, List.replicate, b_read_number, e1, as_d, hb, w]
      | some nq =>
        obtain ⟨n, r'⟩ := nq
        rw [q] at hl
        obtain ⟨h0, f', b', h1, h2⟩ := hl
        have w := wh_done h1 (by simp)
        refine ⟨h0, ?_⟩
        simp [f_read_number, mDef, List.replicate, b_read_number, e1, as_d, hb, w, q_mulR, h2, pos_next]
/-! ### lists of numbers -/
def flat (ns : List Int) : List Int := (ns.map num).flatten
theorem flat_cons (n : Int) (ns : List Int) : flat (n :: ns) = num n ++ flat ns := rfl
def NN (ns : List Int) : Prop := ∀ n ∈ ns, 0 ≤ n
def gapsP : List Int → Int → List Int
  | [], _ => []
  | n :: ns, b => (n - b - 1) :: gapsP ns n
theorem gapsP_len : ∀ (ns : List Int) (b : Int), (gapsP ns b).length = ns.length
  | [], _ => rfl
  | n :: ns, b => by rw [gapsP, List.length_cons, List.length_cons, gapsP_len]
theorem gaps_loop (x0 : D) (gl : List MObj) : ∀ (ns acc : List Int) (b : Int) (y : Slot), acc.length + ns.length ≤ 100000 → ∃ y' b', forGo (tgName 3) l_gaps_of_1 (IL ns) ⟨[.val x0, .val (.int b), .own (.lst (IL acc)), y], gl⟩ = .ok .nx ⟨[.val x0, .val b', .own (.lst (IL (acc ++ gapsP ns b))), y'], gl⟩
  | [], acc, b, y, _ => ⟨y, .int b, by simp [forGo, gapsP]⟩
  | n :: ns, acc, b, y, hl => by
    simp only [List.length_cons] at hl
    obtain ⟨y', b', ih⟩ := gaps_loop x0 gl ns (acc ++ [n - b - 1]) n (.val (.int n)) (by simp; omega)
    have e2 := fApp_ok (IL acc) (.int (n - b - 1)) (by simp only [List.length_map]; omega)
    have st : l_gaps_of_1 ⟨[.val x0, .val (.int b), .own (.lst (IL acc)), .val (.int n)], gl⟩ = .ok .nx ⟨[.val x0, .val (.int n), .own (.lst (IL (acc ++ [n - b - 1]))), .val (.int n)], gl⟩ := by
      simp [l_gaps_of_1, e2, as_d]
    refine ⟨y', b', ?_⟩
    show forGo _ _ (.int n :: IL ns) _ = _
    rw [forGo_cons, ap_tgName, as_d (by simp)]
    simp only [List.set_cons_succ, List.set_cons_zero, st]
    rw [ih, gapsP]
    simp
theorem gaps_of_spec (ns : List Int) (b : Int) (gl : List MObj) (hl : ns.length ≤ 100000) : f_gaps_of [.lst (IL ns), .int b] gl = .ok (.lst (IL (gapsP ns b))) gl := by
  obtain ⟨y', b', h⟩ := gaps_loop (.lst (IL ns)) gl ns [] b .none (by simpa using hl)
  simp at h
  simp [f_gaps_of, mDef, List.replicate, b_gaps_of, as_new, h]
def numsP : List Int → Int → List Int
  | [], _ => []
  | g :: gs, b => (b + 1 + g) :: numsP gs (b + 1 + g)
theorem nums_gaps : ∀ (ns : List Int) (b : Int), numsP (gapsP ns b) b = ns
  | [], _ => rfl
  | n :: ns, b => by
    have e : b + 1 + (n - b - 1) = n := by omega
    rw [gapsP, numsP, e, nums_gaps ns n]
theorem nums_loop (x0 : D) (gl : List MObj) : ∀ (ns acc : List Int) (b : Int) (y : Slot), acc.length + ns.length ≤ 100000 → ∃ y' b', forGo (tgName 3) l_numbers_of_1 (IL ns) ⟨[.val x0, .val (.int b), .own (.lst (IL acc)), y], gl⟩ = .ok .nx ⟨[.val x0, .val b', .own (.lst (IL (acc ++ numsP ns b))), y'], gl⟩
  | [], acc, b, y, _ => ⟨y, .int b, by simp [forGo, numsP]⟩
  | n :: ns, acc, b, y, hl => by
    simp only [List.length_cons] at hl
    obtain ⟨y', b', ih⟩ := nums_loop x0 gl ns (acc ++ [b + 1 + n]) (b + 1 + n) (.val (.int n)) (by simp; omega)
    have e2 := fApp_ok (IL acc) (.int (b + 1 + n)) (by simp only [List.length_map]; omega)
    have st : l_numbers_of_1 ⟨[.val x0, .val (.int b), .own (.lst (IL acc)), .val (.int n)], gl⟩ = .ok .nx ⟨[.val x0, .val (.int (b + 1 + n)), .own (.lst (IL (acc ++ [b + 1 + n]))), .val (.int n)], gl⟩ := by
      simp [l_numbers_of_1, e2, as_d]
    refine ⟨y', b', ?_⟩
    show forGo _ _ (.int n :: IL ns) _ = _
    rw [forGo_cons, ap_tgName, as_d (by simp)]
    simp only [List.set_cons_succ, List.set_cons_zero, st]
    rw [ih, numsP]
    simp
theorem numbers_of_spec (ns : List Int) (b : Int) (gl : List MObj) (hl : ns.length ≤ 100000) : f_numbers_of [.lst (IL ns), .int b] gl = .ok (.lst (IL (numsP ns b))) gl := by
  obtain ⟨y', b', h⟩ := nums_loop (.lst (IL ns)) gl ns [] b .none (by simpa using hl)
  simp at h
  simp [f_numbers_of, mDef, List.replicate, b_numbers_of, as_new, h]
theorem rns_loop (d : List Int) (gl : List MObj) (hd : d.length ≤ 100000) (many : Nat) : ∀ (ns acc t : List Int) (y : Slot), NN ns → (flat ns ++ t) <:+ d → acc.length + ns.length = many → many ≤ 100000 →
    ∃ y', ∃ N, whileGo t_read_numbers_1 l_read_numbers_2 N ⟨[.val (.tup (IL d)), .val (.int (pos d (flat ns ++ t))), .val (.int many), .own (.lst (IL acc)), y], gl⟩ = .ok .nx ⟨[.val (.tup (IL d)), .val (.int (pos d t)), .val (.int many), .own (.lst (IL (acc ++ ns))), y'], gl⟩
  | [], acc, t, y, _, hs, hm, hm2 => by
    simp only [List.length_nil, Nat.add_zero] at hm
    have hm' : ¬ ((acc.length : Int) < many) := by omega
    refine ⟨y, ?_⟩
    have e : flat [] ++ t = t := rfl
    rw [e, List.append_nil]
    exact wh_stop (by simp [t_read_numbers_1, fLen, asD, lenD, hm'])
  | n :: ns, acc, t, y, hn, hs, hm, hm2 => by
    simp only [List.length_cons] at hm
    have hm' : (acc.length : Int) < many := by omega
    have e0 : flat (n :: ns) ++ t = num n ++ (flat ns ++ t) := by rw [flat_cons, List.append_assoc]
    rw [e0] at hs ⊢
    have hr := read_number_spec gl hd hs
    rw [rd_num n (hn n List.mem_cons_self)] at hr
    obtain ⟨h1, h2⟩ := hr
    obtain ⟨y', ih⟩ := rns_loop d gl hd many ns (acc ++ [n]) t (.val (.int n)) (fun m h => hn m (List.mem_cons_of_mem _ h)) h1 (by simp; omega) hm2
    have e2 := fApp_ok (IL acc) (.int n) (by simp only [List.length_map]; omega)
    refine ⟨y', wh_step (s1 := ⟨[.val (.tup (IL d)), .val (.int (pos d (num n ++ (flat ns ++ t)))), .val (.int many), .own (.lst (IL acc)), y], gl⟩)
      (s2 := ⟨[.val (.tup (IL d)), .val (.int (pos d (flat ns ++ t))), .val (.int many), .own (.lst (IL (acc ++ [n]))), .val (.int n)], gl⟩) (by simp [t_read_numbers_1, fLen, asD, lenD, hm']) ?_ ?_⟩
    · simp [-List.append_assoc, l_read_numbers_2, h2, as_d, e2]
    · obtain ⟨N, hN⟩ := ih
      exact ⟨N, by rw [hN, List.append_assoc]; rfl⟩
theorem read_numbers_spec (d : List Int) (gl : List MObj) (hd : d.length ≤ 100000) (ns t : List Int) (hn : NN ns) (hs : (flat ns ++ t) <:+ d) (hm : ns.length ≤ 100000) :
    f_read_numbers [.tup (IL d), .int (pos d (flat ns ++ t)), .int ns.length] gl = .ok (.tup [.lst (IL ns), .int (pos d t)]) gl := by
  obtain ⟨y', h⟩ := rns_loop d gl hd ns.length ns [] t .none hn hs (by simp) hm
  have w := wh_done h (by simp)
  simp [-List.append_assoc] at w
  simp [f_read_numbers, mDef, List.replicate, b_read_numbers, as_new, w]
theorem read_gaps_spec (d : List Int) (gl : List MObj) (hd : d.length ≤ 100000) (ns t : List Int) (b : Int) (hn : NN (gapsP ns b)) (hs : (flat (gapsP ns b) ++ t) <:+ d) (hm : ns.length ≤ 100000) :
    f_read_gaps [.tup (IL d), .int (pos d (flat (gapsP ns b) ++ t)), .int ns.length, .int b] gl = .ok (.tup [.lst (IL ns), .int (pos d t)]) gl := by
  have e1 := read_numbers_spec d gl hd (gapsP ns b) t hn hs (by rw [gapsP_len]; exact hm)
  rw [gapsP_len] at e1
  have e2 := numbers_of_spec (gapsP ns b) b gl (by rw [gapsP_len]; exact hm)
  rw [nums_gaps] at e2
  simp [f_read_gaps, mDef, List.replicate, b_read_gaps, as_d, e1, e2]
theorem txt_len (l : List Int) : (txt l).length = l.length := by unfold txt Str.length; simp
theorem num_pos (n : Int) : 1 ≤ (num n).length := List.length_pos_iff.mpr (num_ne n)
theorem sgs_long : ∀ (n : Nat) (r : List Int), r.length < n → sgs n r = match sgs r.length r with | .inl _ => .inr 0 | .inr e => .inr e
  | 0, r, h => by omega
  | n + 1, [], h => rfl
  | n + 1, b :: r, h => by
    simp only [List.length_cons] at h
    have ih := sgs_long n r (by omega)
    have e1 : sgs (n + 1) (b :: r) = if 40 ≤ b then .inr (r.length + 1) else match sgs n r with | .inl (s, r') => .inl (b :: s, r') | .inr e => .inr e := rfl
    have e2 : sgs (b :: r).length (b :: r) = if 40 ≤ b then .inr (r.length + 1) else match sgs r.length r with | .inl (s, r') => .inl (b :: s, r') | .inr e => .inr e := rfl
    rw [e1, e2]
    by_cases hb : 40 ≤ b
    · rw [if_pos hb, if_pos hb]
    · rw [if_neg hb, if_neg hb, ih]
      cases sgs r.length r with
      | inl z => rfl
      | inr e => rfl
theorem sgs_err : ∀ (n : Nat) (r : List Int) (e : Nat), sgs n r = .inr e → e ≤ r.length
  | 0, r, e, h => by cases h
  | n + 1, [], e, h => by cases h; omega
  | n + 1, b :: r, e, h => by
    unfold sgs at h
    split at h
    · cases h; simp
    · cases q : sgs n r with
      | inl z => rw [q] at h; cases h
      | inr e' =>
        rw [q] at h
        cases h
        have := sgs_err n r e q
        simp
        omega
theorem ix_ok {d r : List Int} {b : Int} (h : (b :: r) <:+ d) : ∀ s, opIx s (.d (.tup (IL d))) (.d (.int (pos d (b :: r)))) = .ok (.d (.int b)) s := fun s => q_ixT (atI_il (pos_lo h).1 (pos_get h))


/-! ### the box -/
def Bx (gl : List MObj) : Prop := ∃ (cs : List Int) (a b : Int) (rest : List MObj), gl = .lst (IL cs) :: .lst [.ref 0, .int a, .int b] :: rest ∧ 0 ≤ a ∧ 0 ≤ b
theorem box_spec (ns : List Int) : ∃ gl, f__law_box [.scr (ns.map D.int)] [] = .ok (.ref 1) gl ∧ Bx gl := by
  refine ⟨[.lst (IL (cut ns none (some 63))), .lst [.ref 0, .int 0, .int (4711 + ns.length)]], ?_, _, _, _, [], rfl, by omega, by omega⟩
  have e : cut (ns.map D.int) none (some 63) = IL (cut ns none (some 63)) := cut_il
  simp [f__law_box, mDef, b__law_box, opSl, asTup, asLst, asScr, asInt, e, fLen, asD, lenD]
def ld1 (b : Int) : Int := (b * 48271 + 17) % 2147483629
def ld2 (b : Int) : Int := (ld1 b * 69621 + 5) % 2147483587
def ld3 (b : Int) : Int := (ld2 b * 40692 + 3) % 2147483563
def ldr (b : Int) : Int := ld1 b * 4611686014132420609 + ld2 b * 2147483647 + ld3 b
theorem load_nil (a b : Int) (rest : List MObj) : f__law_load [.ref 1] (.lst [] :: .lst [.ref 0, .int a, .int b] :: rest) = .ok (.int (ldr b)) (.lst [] :: .lst [.ref 0, .int a, .int (ld3 b)] :: rest) := by
  simp [f__law_load, mDef, List.replicate, b__law_load, q_ixL, asLst, atI, ixN, fLen, asD, lenD, q_mulR, q_mulL, q_mod, as_d, ldr, ld1, ld2, ld3]
theorem load_cons (c : Int) (cs : List Int) (a b : Int) (rest : List MObj) : f__law_load [.ref 1] (.lst (.int c :: IL cs) :: .lst [.ref 0, .int a, .int b] :: rest) = (let z := if 0 ≤ c then 2 * c else -2 * c - 1
    if 1000000000000000000 ≤ z then .ok (.int z) (.lst (IL cs) :: .lst [.ref 0, .int a, .int b] :: rest) else
      let b' := (b * 69621 + z * 48271 + 11) % 2147483647
      .ok (.int (ldr b')) (.lst (IL cs) :: .lst [.ref 0, .int a, .int (ld3 b')] :: rest)) := by
  by_cases hc : 0 ≤ c
  · by_cases hz : 1000000000000000000 ≤ 2 * c
    · simp [f__law_load, mDef, List.replicate, b__law_load, q_ixL, asLst, atI, ixN, fLen, asD, lenD, q_mulR, q_mulL, q_mod, as_d, ldr, ld1, ld2, ld3, hc, hz, fPopAt, seqIndex?]
    · simp [f__law_load, mDef, List.replicate, b__law_load, q_ixL, asLst, atI, ixN, fLen, asD, lenD, q_mulR, q_mulL, q_mod, as_d, ldr, ld1, ld2, ld3, hc, hz, fPopAt, seqIndex?]
  · by_cases hz : 1000000000000000000 ≤ -2 * c - 1
    · simp [f__law_load, mDef, List.replicate, b__law_load, q_ixL, asLst, atI, ixN, fLen, asD, lenD, q_mulR, q_mulL, q_mod, as_d, ldr, ld1, ld2, ld3, hc, hz, fPopAt, seqIndex?]
    · simp [f__law_load, mDef, List.replicate, b__law_load, q_ixL, asLst, atI, ixN, fLen, asD, lenD, q_mulR, q_mulL, q_mod, as_d, ldr, ld1, ld2, ld3, hc, hz, fPopAt, seqIndex?]
theorem em_lo (x y : Int) (h : 0 < y) : 0 ≤ x % y := Int.emod_nonneg _ (by omega)
theorem ldr_nonneg (b : Int) : 0 ≤ ldr b ∧ 0 ≤ ld3 b := by
  have h1 := em_lo (b * 48271 + 17) 2147483629 (by omega)
  have h2 := em_lo (ld1 b * 69621 + 5) 2147483587 (by omega)
  have h3 := em_lo (ld2 b * 40692 + 3) 2147483563 (by omega)
  unfold ldr
  refine ⟨?_, h3⟩
  have e1 : 0 ≤ ld1 b := h1
  have e2 : 0 ≤ ld2 b := h2
  have e3 : 0 ≤ ld3 b := h3
  omega
theorem load_spec (cs : List Int) (a b : Int) (rest : List MObj) (hb : 0 ≤ b) : ∃ r cs' b', f__law_load [.ref 1] (.lst (IL cs) :: .lst [.ref 0, .int a, .int b] :: rest) = .ok (.int r) (.lst (IL cs') :: .lst [.ref 0, .int a, .int b'] :: rest) ∧ 0 ≤ r ∧ 0 ≤ b' := by
  cases cs with
  | nil => exact ⟨ldr b, [], ld3 b, load_nil a b rest, (ldr_nonneg b).1, (ldr_nonneg b).2⟩
  | cons c cs =>
    have e := load_cons c cs a b rest
    simp only at e
    split at e
    · split at e
      · rename_i hz
        exact ⟨_, cs, b, e, by omega, hb⟩
      · exact ⟨_, cs, _, e, (ldr_nonneg _).1, (ldr_nonneg _).2⟩
    · split at e
      · rename_i hz
        exact ⟨_, cs, b, e, by omega, hb⟩
      · exact ⟨_, cs, _, e, (ldr_nonneg _).1, (ldr_nonneg _).2⟩
theorem draw_spec (gl : List MObj) (m : Int) (h : Bx gl) (h0 : 0 < m) (h2 : m < 1073741824) : ∃ r gl', f__law_draw [.ref 1, .int m] gl = .ok (.int r) gl' ∧ 0 ≤ r ∧ r < m ∧ Bx gl' := by
  obtain ⟨cs, a, b, rest, rfl, ha, hb⟩ := h
  by_cases hm : a < m
  · obtain ⟨r, cs', b', e, r0, b0⟩ := load_spec cs a b rest hb
    refine ⟨r % m, .lst (IL cs') :: .lst [.ref 0, .int (r / m), .int b'] :: rest, ?_, em_lo _ _ h0, Int.emod_lt_of_pos _ h0, cs', r / m, b', rest, rfl, Int.ediv_nonneg r0 (by omega), b0⟩
    simp [f__law_draw, mDef, List.replicate, b__law_draw, q_ixL, asLst, atI, ixN, as_d, hm, e, q_mod, q_fdiv, h0, h2]
  · refine ⟨a % m, .lst (IL cs) :: .lst [.ref 0, .int (a / m), .int b] :: rest, ?_, em_lo _ _ h0, Int.emod_lt_of_pos _ h0, cs, a / m, b, rest, rfl, Int.ediv_nonneg ha (by omega), hb⟩
    simp [f__law_draw, mDef, List.replicate, b__law_draw, q_ixL, asLst, atI, ixN, as_d, hm, q_mod, q_fdiv, h0, h2]
/-! ### same -/
theorem blsOf_map : ∀ bs : List Bool, blsOf (bs.map D.bl) = some bs
  | [] => rfl
  | b :: bs => by
    show (blsOf (bs.map D.bl)).map _ = _
    rw [blsOf_map bs]
    rfl
theorem range_bools (bs : List Bool) : (List.range bs.length).map (fun k => D.bl (bs.getD k false)) = bs.map D.bl := by
  apply List.ext_getElem?
  intro i
  rw [List.getElem?_map, List.getElem?_map]
  by_cases h : i < bs.length
  · rw [List.getElem?_range h, List.getElem?_eq_getElem h, Option.map_some, Option.map_some, List.getD_eq_getElem?_getD, List.getElem?_eq_getElem h]
    rfl
  · rw [List.getElem?_eq_none (by rw [List.length_range]; omega), List.getElem?_eq_none (by omega)]
    rfl
theorem same_seq (n : Nat) (gl : List MObj) (xs ys : List D) (bs : List Bool) (h1 : xs.length = bs.length) (h2 : ys.length = bs.length) (hl : bs.length ≤ 100000) (x y : D) (hx : ∀ (i : Nat) (z : D), xs[i]? = some z → ∀ s, opIx s (.d x) (.d (.int i)) = .ok (.d z) s) (hy : ∀ (i : Nat) (z : D), ys[i]? = some z → ∀ s, opIx s (.d y) (.d (.int i)) = .ok (.d z) s)
    (lx : ∀ s, fLen s (.d x) = .ok (.d (.int xs.length)) s)
    (hb : ∀ (i : Nat) (a b : D) (q : Bool), xs[i]? = some a → ys[i]? = some b → bs[i]? = some q → f__law_same n [a, b] gl = .ok (.bl q) gl) :
    mComp [2] (iRange1 (mACons (mFn1 fLen (mVar 0)) mANil)) (tgName 2) mYes (e__law_same_1 (f__law_same n)) ⟨[.val x, .val y, .none], gl⟩ = .ok (.new (.lst (bs.map D.bl))) ⟨[.val x, .val y, .none], gl⟩ := by
  rw [← range_bools]
  refine comp_mapI (List.range bs.length) (fun k => .int ((k : Nat) : Int)) (fun k => D.bl (bs.getD k false)) ?_ (by simp) rfl (by rw [List.length_range]; omega) fun i hi => ?_
  · have e : rangeD 0 bs.length = (List.range bs.length).map fun k => D.int ((k : Nat) : Int) := by
      rw [rangeD_map]
      exact List.map_congr_left fun k _ => by rw [Int.zero_add]
    have hr : rng1 (bs.length : Int) = some (rangeD 0 bs.length) := rng1_nat (by omega)
    simp [lx, h1, hr, e]
  · have hi := List.mem_range.mp hi
    obtain ⟨a, ha⟩ : ∃ a, xs[i]? = some a := ⟨_, List.getElem?_eq_getElem (by omega)⟩
    obtain ⟨b, hb'⟩ : ∃ b, ys[i]? = some b := ⟨_, List.getElem?_eq_getElem (by omega)⟩
    have hq : bs[i]? = some (bs.getD i false) := by rw [List.getD_eq_getElem?_getD, List.getElem?_eq_getElem hi]; rfl
    have r := hb i a b _ ha hb' hq
    have i1 := hx i a ha
    have i2 := hy i b hb'
    simp [-List.getD_eq_getElem?_getD, e__law_same_1, i1, i2, r]
theorem ixT (xs : List D) (i : Nat) (z : D) (h : xs[i]? = some z) (s : S) : opIx s (.d (.tup xs)) (.d (.int i)) = .ok (.d z) s := by
  refine q_ixT ?_
  have hl := (List.getElem?_eq_some_iff.mp h).1
  unfold atI ixN
  rw [if_pos (by omega), if_pos (by omega)]
  simpa using h
theorem ixL (xs : List D) (i : Nat) (z : D) (h : xs[i]? = some z) (s : S) : opIx s (.d (.lst xs)) (.d (.int i)) = .ok (.d z) s := by
  refine q_ixL rfl ?_
  have hl := (List.getElem?_eq_some_iff.mp h).1
  unfold atI ixN
  rw [if_pos (by omega), if_pos (by omega)]
  simpa using h
theorem same_tup (n : Nat) (gl : List MObj) (xs ys : List D) (bs : List Bool) (h1 : xs.length = bs.length) (h2 : ys.length = bs.length) (hl : bs.length ≤ 100000)
    (hb : ∀ (i : Nat) (a b : D) (q : Bool), xs[i]? = some a → ys[i]? = some b → bs[i]? = some q → f__law_same n [a, b] gl = .ok (.bl q) gl) : f__law_same (n + 1) [.tup xs, .tup ys] gl = .ok (.bl (bs.all id)) gl := by
  have cm := same_seq n gl xs ys bs h1 h2 hl (.tup xs) (.tup ys) (ixT xs) (ixT ys) (fun s => rfl) hb
  have fa : ∀ s, fAll s (.new (.lst (bs.map D.bl))) = .ok (.d (.bl (bs.all id))) s := fun s => by
    unfold fAll
    simp only [asLst, Option.bind_some, blsOf_map]
  have hxy : xs.length = ys.length := h1.trans h2.symm
  simp [-ap_Comp, f__law_same, mDef, List.replicate, b__law_same, fIsi, asD, tyD, isTy, truthD, cm, fa, hxy]
theorem same_tupN (n : Nat) (gl : List MObj) (xs ys : List D) (h : xs.length ≠ ys.length) : f__law_same (n + 1) [.tup xs, .tup ys] gl = .ok (.bl false) gl := by
  have h' : ¬ ((xs.length : Int) = ys.length) := by omega
  simp [-ap_Comp, f__law_same, mDef, List.replicate, b__law_same, fIsi, asD, tyD, isTy, truthD, h']
theorem same_lst (n : Nat) (gl : List MObj) (xs ys : List D) (bs : List Bool) (h1 : xs.length = bs.length) (h2 : ys.length = bs.length) (hl : bs.length ≤ 100000)
    (hb : ∀ (i : Nat) (a b : D) (q : Bool), xs[i]? = some a → ys[i]? = some b → bs[i]? = some q → f__law_same n [a, b] gl = .ok (.bl q) gl) : f__law_same (n + 1) [.lst xs, .lst ys] gl = .ok (.bl (bs.all id)) gl := by
  have cm := same_seq n gl xs ys bs h1 h2 hl (.lst xs) (.lst ys) (ixL xs) (ixL ys) (fun s => rfl) hb
  have fa : ∀ s, fAll s (.new (.lst (bs.map D.bl))) = .ok (.d (.bl (bs.all id))) s := fun s => by
    unfold fAll
    simp only [asLst, Option.bind_some, blsOf_map]
  have hxy : xs.length = ys.length := h1.trans h2.symm
  simp [-ap_Comp, f__law_same, mDef, List.replicate, b__law_same, fIsi, asD, tyD, isTy, truthD, cm, fa, hxy]
mutual
inductive Pl : Nat → D → Prop
  | non (n : Nat) : Pl (n + 1) .non
  | bl (n : Nat) (b : Bool) : Pl (n + 1) (.bl b)
  | int (n : Nat) (i : Int) : Pl (n + 1) (.int i)
  | str (n : Nat) (x : Str) : Pl (n + 1) (.str x)
  | tup (n : Nat) (xs : List D) : xs.length ≤ 100000 → PlL n xs → Pl (n + 1) (.tup xs)
  | lst (n : Nat) (xs : List D) : xs.length ≤ 100000 → PlL n xs → Pl (n + 1) (.lst xs)
inductive PlL : Nat → List D → Prop
  | nil (n : Nat) : PlL n []
  | cons (n : Nat) (x : D) (xs : List D) : Pl n x → PlL n xs → PlL n (x :: xs)
end
theorem PlL.get {n : Nat} : ∀ {xs : List D} {k : Nat} {x : D}, PlL n xs → xs[k]? = some x → Pl n x
  | _, 0, _, .cons _ _ _ h _, e => by simp at e; subst e; exact h
  | _, k + 1, _, .cons _ _ _ _ t, e => PlL.get t (by simpa using e)
theorem all_true (n : Nat) : (List.replicate n true).all id = true := by
  rw [List.all_eq_true]
  intro b hb
  rw [(List.mem_replicate.mp hb).2]
  rfl
theorem same_refl (gl : List MObj) : ∀ (n : Nat) (x : D), Pl n x → f__law_same n [x, x] gl = .ok (.bl true) gl := by
  intro n
  induction n with
  | zero => intro x h; cases h
  | succ n ih =>
    intro x h
    have key : ∀ xs : List D, PlL n xs → ∀ (i : Nat) (a b : D) (q : Bool), xs[i]? = some a → xs[i]? = some b → (List.replicate xs.length true)[i]? = some q → f__law_same n [a, b] gl = .ok (.bl q) gl := fun xs hx i a b q ha hb hq => by
      rw [ha] at hb
      cases hb
      have : q = true := (List.mem_replicate.mp (List.mem_of_getElem? hq)).2
      rw [this]
      exact ih a (hx.get ha)
    cases h with
    | non => simp [f__law_same, mDef, List.replicate, b__law_same, fIsi, asD, tyD, isTy, truthD, opIsN, isNonRV]
    | bl _ b => simp [f__law_same, mDef, List.replicate, b__law_same, fIsi, asD, tyD, isTy, truthD, opIsN, isNonRV, opEq, eqvO, eqS]
    | int _ i => simp [f__law_same, mDef, List.replicate, b__law_same, fIsi, asD, tyD, isTy, truthD, opIsN, isNonRV, opEq, eqvO, eqS]
    | str _ z => simp [f__law_same, mDef, List.replicate, b__law_same, fIsi, asD, tyD, isTy, truthD, opIsN, isNonRV, opEq, eqvO, eqS]
    | tup _ xs hl hx =>
      rw [same_tup n gl xs xs (List.replicate xs.length true) (by simp) (by simp) (by simpa using hl) (key xs hx), all_true]
    | lst _ xs hl hx =>
      rw [same_lst n gl xs xs (List.replicate xs.length true) (by simp) (by simp) (by simpa using hl) (key xs hx), all_true]
theorem pl_int (n : Nat) (h : 0 < n) (i : Int) : Pl n (.int i) := by cases n with
  | zero => omega
  | succ n => exact .int n i
theorem pl_non (n : Nat) (h : 0 < n) : Pl n .non := by cases n with
  | zero => omega
  | succ n => exact .non n
theorem pl_il (n : Nat) (l : List Int) : PlL (n + 1) (IL l) := by
  induction l with
  | nil => exact .nil _
  | cons a l ih => exact .cons _ _ _ (.int _ _) ih
theorem pl_tupI (n : Nat) (l : List Int) (h : l.length ≤ 100000) : Pl (n + 2) (.tup (IL l)) := .tup _ _ (by simpa using h) (pl_il n l)
theorem pl_lstI (n : Nat) (l : List Int) (h : l.length ≤ 100000) : Pl (n + 2) (.lst (IL l)) := .lst _ _ (by simpa using h) (pl_il n l)
theorem add_txt (l : List Int) (b : Int) (hl : l.length ≤ 100000) (s : S) : opAdd s (.d (.str (txt l))) (.d (.str ⟨#[sgn b]⟩)) = .ok (.d (.str (txt (l ++ [b])))) s := by
  have e : txt l ++ (⟨#[sgn b]⟩ : Str) = txt (l ++ [b]) := by
    show (⟨(l.map sgn).toArray ++ #[sgn b]⟩ : Str) = ⟨((l ++ [b]).map sgn).toArray⟩
    congr 1
    simp
  have h : (txt l).length + (⟨#[sgn b]⟩ : Str).length ≤ sizeLine := by
    rw [txt_len]
    show l.length + 1 ≤ _
    exact szN _ (by omega)
  simp only [opAdd, orF, opAddI, fI, asInt, opAddS, asStr, h, if_true, e]
theorem num_short (h : Int) (hh : h < 2 ^ 98) : (num h).length ≤ 15 := by
  unfold num
  rw [List.length_append]
  have := digs_len 14 (h.toNat / 128) (by
    have : h.toNat < 2 ^ 98 := by omega
    have e : (128 : Nat) ^ 14 = 2 ^ 98 := by decide
    omega)
  simp
  omega
/-- a good value -/
def NB (ns : List Int) : Prop := ∀ n ∈ ns, 0 ≤ n ∧ n < 2 ^ 98
theorem nb_nn {ns : List Int} (h : NB ns) : NN ns := fun n m => (h n m).1
theorem flat_len : ∀ {ns : List Int}, NB ns → (flat ns).length ≤ 15 * ns.length
  | [], _ => by simp [flat]
  | n :: ns, h => by
    have h1 := num_short n (h n List.mem_cons_self).2
    have h2 := flat_len (ns := ns) fun m k => h m (List.mem_cons_of_mem _ k)
    rw [flat_cons, List.length_append, List.length_cons]
    omega
theorem flat_app (a b : List Int) : flat (a ++ b) = flat a ++ flat b := by unfold flat; simp
theorem range_ints (l : List Int) : (List.range l.length).map (fun k => D.int (l.getD k 0)) = IL l := by
  apply List.ext_getElem?
  intro i
  rw [List.getElem?_map, List.getElem?_map]
  by_cases h : i < l.length
  · rw [List.getElem?_range h, List.getElem?_eq_getElem h, Option.map_some, Option.map_some, List.getD_eq_getElem?_getD, List.getElem?_eq_getElem h]
    rfl
  · rw [List.getElem?_eq_none (by rw [List.length_range]; omega), List.getElem?_eq_none (by omega)]
    rfl
/-- the drawing loop -/
theorem byt_take {d : List Int} (h : Byt d) (k : Nat) : Byt (d.take k) := fun x m => h x (List.mem_of_mem_take m)
theorem byt_drop {d : List Int} (h : Byt d) (k : Nat) : Byt (d.drop k) := fun x m => h x (List.mem_of_mem_drop m)
theorem byt_one {b : Int} (h0 : 0 ≤ b) (h1 : b < 256) : Byt [b] := fun x m => by rw [List.mem_singleton.mp m]; exact ⟨h0, h1⟩
theorem cut_hi' {α : Type} {xs : List α} {k : Nat} : cut xs none (some (k : Int)) = xs.take k := by
  unfold cut HT.sIx
  have e : ¬ ((k : Int) < 0) := by omega
  simp only [e, if_false, Int.toNat_natCast, List.drop_zero, Nat.sub_zero]
  by_cases h : k ≤ xs.length
  · rw [Nat.min_eq_left h]
  · rw [Nat.min_eq_right (by omega), List.take_of_length_le (Nat.le_refl _), List.take_of_length_le (by omega)]
/-- the drawn bytes -/
theorem bytes_of {ds ys : List D} (h : All2 (fun _ y => ∃ b : Int, y = .int b ∧ 0 ≤ b ∧ b < 256) ds ys) : ∃ l : List Int, ys = IL l ∧ l.length = ds.length ∧ Byt l := by
  induction h with
  | nil => exact ⟨[], rfl, rfl, fun _ h => by cases h⟩
  | cons hx _ ih =>
    obtain ⟨b, rfl, h1, h2⟩ := hx
    obtain ⟨l, rfl, h3, h4⟩ := ih
    refine ⟨b :: l, rfl, by simp [h3], fun x hx => ?_⟩
    rcases List.mem_cons.mp hx with rfl | hx
    · exact ⟨h1, h2⟩
    · exact h4 x hx
end K21
/-! # k21: postings, parts of them, their bytes; the law's own bytes -/
namespace K21
open PySem PySem.Spec PyProof.Rows L2 MI
structure Pg where
  n : Int
  ps : List Int
def pgD (x : Pg) : D := .tup [.int x.n, .tup (IL x.ps)]
/-- ascending behind one -/
def AscI : Int → List Int → Prop
  | _, [] => True
  | q, n :: ns => q < n ∧ AscI n ns
theorem ascI_gaps : ∀ {q : Int} {ns : List Int}, AscI q ns ↔ NN (gapsP ns q)
  | q, [] => ⟨fun _ _ m => (nomatch m), fun _ => trivial⟩
  | q, n :: ns => by
    show (q < n ∧ AscI n ns) ↔ NN ((n - q - 1) :: gapsP ns n)
    rw [ascI_gaps]
    constructor
    · rintro ⟨h1, h2⟩ x m
      rcases List.mem_cons.mp m with rfl | m
      · omega
      · exact h2 x m
    · intro h
      have := h (n - q - 1) List.mem_cons_self
      exact ⟨by omega, fun x m => h x (List.mem_cons_of_mem _ m)⟩
theorem gaps_nums : ∀ (gs : List Int) (b : Int), gapsP (numsP gs b) b = gs
  | [], _ => rfl
  | g :: gs, b => by
    show (b + 1 + g - b - 1) :: gapsP (numsP gs (b + 1 + g)) (b + 1 + g) = _
    rw [gaps_nums]
    congr 1
    omega
theorem numsP_len : ∀ (gs : List Int) (b : Int), (numsP gs b).length = gs.length
  | [], _ => rfl
  | g :: gs, b => by show (numsP gs (b + 1 + g)).length + 1 = _; rw [numsP_len]; rfl
/-- the bytes of places, told by gaps -/
def gb (ns : List Int) (q : Int) : List Int := flat (gapsP ns q)
theorem gb_cons (n : Int) (ns : List Int) (q : Int) : gb (n :: ns) q = num (n - q - 1) ++ gb ns n := rfl
def pls : List Pg → List Int
  | [] => []
  | x :: xs => num x.ps.length ++ gb x.ps (-1) ++ pls xs
def blk (q : Int) (xs : List Pg) : List Int := gb (xs.map (·.n)) q ++ pls xs
/-- a good posting -/
def Gp (x : Pg) : Prop := x.ps ≠ [] ∧ AscI (-1) x.ps
def cnts (xs : List Pg) : List Int := xs.map fun x => (x.ps.length : Int)
def lastN : List Pg → Int
  | [] => -1
  | [x] => x.n
  | _ :: xs => lastN xs
theorem lastN_cons (x y : Pg) (xs : List Pg) : lastN (x :: y :: xs) = lastN (y :: xs) := rfl
theorem lastN_app : ∀ (q : List Pg) (x : Pg), lastN (q ++ [x]) = x.n
  | [], _ => rfl
  | [_], _ => rfl
  | _ :: b :: q, x => by
    show lastN (b :: (q ++ [x])) = _
    exact lastN_app (b :: q) x
theorem atI_last (xs : List D) (x : D) : atI (xs ++ [x]) (-1) = some x := by
  unfold atI ixN
  rw [List.length_append, List.length_singleton]
  rw [if_neg (by omega), if_pos (by omega)]
  show (xs ++ [x])[((-1 : Int) + ((xs.length + 1 : Nat) : Int)).toNat]? = _
  rw [show ((-1 : Int) + ((xs.length + 1 : Nat) : Int)).toNat = xs.length by omega]
  simp
theorem last_at {p : List Pg} (h : p ≠ []) : ∃ x ∈ p, atI (p.map pgD) (-1) = some (pgD x) ∧ lastN p = x.n := by
  rcases List.eq_nil_or_concat p with rfl | ⟨q, x, rfl⟩
  · exact absurd rfl h
  · refine ⟨x, by simp, ?_, by rw [List.concat_eq_append, lastN_app]⟩
    rw [List.concat_eq_append, List.map_append]
    exact atI_last _ _
/-! ### parts -/
def parts (b : Nat) (rs : List Pg) : List (List Pg) :=
  if h : rs = [] ∨ b = 0 then [] else rs.take b :: parts b (rs.drop b)
termination_by rs.length
decreasing_by
  have : rs ≠ [] := fun z => h (.inl z)
  have := List.length_pos_iff.mpr this
  have : b ≠ 0 := fun z => h (.inr z)
  rw [List.length_drop]
  omega
theorem parts_nil (b : Nat) : parts b [] = [] := by rw [parts, dif_pos (.inl rfl)]
theorem parts_cons {b : Nat} {rs : List Pg} (h : rs ≠ []) (hb : 0 < b) : parts b rs = rs.take b :: parts b (rs.drop b) := by
  rw [parts, dif_neg (by rintro (z | z); exact h z; omega)]
theorem parts_ind {P : List Pg → Prop} (b : Nat) (hb : 0 < b) (h0 : P []) (h1 : ∀ rs, rs ≠ [] → P (rs.drop b) → P rs) : ∀ rs, P rs := by
  intro rs
  induction hn : rs.length using Nat.strongRecOn generalizing rs with
  | ind n ih =>
    by_cases h : rs = []
    · rw [h]; exact h0
    · have := List.length_pos_iff.mpr h
      exact h1 rs h (ih _ (by rw [List.length_drop]; omega) _ rfl)
theorem parts_flat (b : Nat) (hb : 0 < b) : ∀ rs : List Pg, (parts b rs).flatten = rs := by
  refine parts_ind b hb (by rw [parts_nil]; rfl) fun rs h ih => ?_
  rw [parts_cons h hb, List.flatten_cons, ih, List.take_append_drop]
theorem parts_len (b : Nat) (hb : 0 < b) : ∀ rs : List Pg, (parts b rs).length = (rs.length + b - 1) / b := by
  refine parts_ind b hb ?_ fun rs h ih => ?_
  · rw [parts_nil]
    simp
    rw [Nat.div_eq_of_lt (by omega)]
  · have hp := List.length_pos_iff.mpr h
    rw [parts_cons h hb, List.length_cons, ih, List.length_drop]
    by_cases hl : rs.length ≤ b
    · rw [Nat.sub_eq_zero_of_le hl, Nat.zero_add, Nat.div_eq_of_lt (by omega)]
      have e : rs.length + b - 1 = rs.length - 1 + b := by omega
      rw [e, Nat.add_div_right _ hb, Nat.div_eq_of_lt (by omega)]
    · have e : rs.length + b - 1 = (rs.length - b + b - 1) + b := by omega
      rw [e, Nat.add_div_right _ hb]
theorem parts_ne (b : Nat) (hb : 0 < b) : ∀ rs : List Pg, ∀ p ∈ parts b rs, p ≠ [] := by
  refine parts_ind b hb (fun p m => by rw [parts_nil] at m; cases m) fun rs h ih p m => ?_
  rw [parts_cons h hb] at m
  rcases List.mem_cons.mp m with rfl | m
  · intro z
    have := List.length_pos_iff.mpr h
    have h2 := congrArg List.length z
    rw [List.length_take, List.length_nil] at h2
    omega
  · exact ih p m
theorem parts_le (b : Nat) (hb : 0 < b) : ∀ rows : List Pg, ∀ p ∈ parts b rows, p.length ≤ b := by
  refine parts_ind b hb (fun p m => by rw [parts_nil] at m; cases m) fun rem hne ih p m => ?_
  rw [parts_cons hne hb] at m
  rcases List.mem_cons.mp m with rfl | m
  · rw [List.length_take]; omega
  · exact ih p m
theorem parts_sub {b : Nat} {rows : List Pg} (hb : 0 < b) {p : List Pg} (h : p ∈ parts b rows) {x : Pg} (m : x ∈ p) : x ∈ rows := by
  rw [← parts_flat b hb rows]
  exact List.mem_flatten.mpr ⟨p, h, m⟩
/-- what is told of blocks -/
def hsP : Int → List (List Pg) → List Int → List Int
  | _, [], _ => []
  | _, _ :: _, [] => []
  | q, p :: ps, m :: ms => num (lastN p - q - 1) ++ num (maxL (cnts p)) ++ num m ++ num ((blk q p).length : Nat) ++ hsP (lastN p) ps ms
def bdP : Int → List (List Pg) → List Int
  | _, [] => []
  | q, p :: ps => blk q p ++ bdP (lastN p) ps
def datP (xs : List Pg) (b : Nat) (ms : List Int) : List Int := num xs.length ++ num b ++ (hsP (-1) (parts b xs) ms ++ bdP (-1) (parts b xs))
/-! ### the law's bytes of a block -/
/-! ### the law's bytes of all -/
theorem intsOf_il : ∀ l : List Int, intsOf (IL l) = some l
  | [] => rfl
  | i :: l => by
    show (intsOf (IL l)).map (i :: ·) = _
    rw [intsOf_il]
    rfl
theorem max_new (l : List Int) (h : l ≠ []) (s : S) : fFold maxL true s (.new (.lst (IL l))) = .ok (.d (.int (maxL l))) s := by
  unfold fFold
  have : asD s (.new (.lst (IL l))) = some (.lst (IL l)) := rfl
  rw [this]
  simp only [intsOf_il]
  have e : l.isEmpty = false := by
    cases l with
    | nil => exact absurd rfl h
    | cons => rfl
  simp [e]
theorem min_new (l : List Int) (h : l ≠ []) (s : S) : fFold minL true s (.new (.lst (IL l))) = .ok (.d (.int (minL l))) s := by
  unfold fFold
  have : asD s (.new (.lst (IL l))) = some (.lst (IL l)) := rfl
  rw [this]
  simp only [intsOf_il]
  have e : l.isEmpty = false := by
    cases l with
    | nil => exact absurd rfl h
    | cons => rfl
  simp [e]
theorem cnts_ne {xs : List Pg} (h : xs ≠ []) : cnts xs ≠ [] := by
  cases xs with
  | nil => exact absurd rfl h
  | cons => simp [cnts]
end K21
/-! # k21: the law's own bytes -/
namespace MI
open PySem L2
theorem rest_wipe (env : List Slot) (vs : List Nat) : restE env (wipeE env vs) vs = env := by
  apply List.ext_getElem?
  intro i
  rw [restE_get _ _ (by rw [wipeE_len]), wipeE_get]
  split <;> rfl
theorem compGo_G {ι : Type} {vs : List Nat} {t : D → S → Option S} {e : M} {env : List Slot} {gl : List MObj} (a b : ι → D) : ∀ (l : List ι) (acc : List D), acc.length + l.length ≤ sizeLine →
    (∀ i ∈ l, ∃ e1 e2, t (a i) ⟨wipeE env vs, gl⟩ = some ⟨e1, gl⟩ ∧ mLeak e ⟨e1, gl⟩ = .ok (b i) ⟨e2, gl⟩ ∧ wipeE e2 vs = wipeE env vs) →
    compGo vs t mYes (mLeak e) (l.map a) acc ⟨wipeE env vs, gl⟩ = some (acc ++ l.map b, ⟨wipeE env vs, gl⟩)
  | [], acc, _, _ => by simp [compGo]
  | i :: l, acc, hl, he => by
    obtain ⟨e1, e2, h1, h2, h3⟩ := he i List.mem_cons_self
    have hl' : acc.length < sizeLine := by simp only [List.length_cons] at hl; omega
    have ih := compGo_G a b l (acc ++ [b i]) (by simp only [List.length_append, List.length_cons, List.length_nil] at hl ⊢; omega) fun j m => he j (List.mem_cons_of_mem _ m)
    rw [List.map_cons]
    unfold compGo
    rw [h1]
    simp only [ap_Yes, if_true, h2, hl']
    show compGo vs t mYes (mLeak e) (l.map a) (acc ++ [b i]) ⟨wipeE e2 vs, gl⟩ = _
    rw [h3, ih]
    simp
/-- a comprehension whose target is any -/
theorem comp_mapG {ι : Type} {vs : List Nat} {t : D → S → Option S} {e : M} {env : List Slot} {gl : List MObj} {it : S → Res (List D)} {s0 : S} (l : List ι) (a b : ι → D) (hi : it s0 = .ok (l.map a) ⟨env, gl⟩) (ho : noOwn env vs = true) (hl : l.length ≤ 1000000)
    (he : ∀ i ∈ l, ∃ e1 e2, t (a i) ⟨wipeE env vs, gl⟩ = some ⟨e1, gl⟩ ∧ mLeak e ⟨e1, gl⟩ = .ok (b i) ⟨e2, gl⟩ ∧ wipeE e2 vs = wipeE env vs) :
    mComp vs it t mYes e s0 = .ok (.new (.lst (l.map b))) ⟨env, gl⟩ := by
  have h1 := compGo_G a b l [] (by rw [List.length_nil, Nat.zero_add]; exact szN _ hl) he
  rw [ap_Comp, hi, Res.bind_ok, if_pos ho]
  show (match compGo vs t mYes (mLeak e) (l.map a) [] ⟨wipeE env vs, gl⟩ with | some (acc, s2) => Res.ok (RV.new (.lst acc)) ⟨restE env s2.env vs, s2.gl⟩ | none => .stuck) = _
  rw [h1]
  show Res.ok (RV.new (.lst ([] ++ l.map b))) (⟨restE env (wipeE env vs) vs, gl⟩ : S) = _
  rw [rest_wipe, List.nil_append]
end MI
namespace K21
open PySem PySem.Spec PyProof.Rows L2 MI
/-- a slot that holds no list of its own -/
def NoO (c : Slot) : Prop := ∀ o, c ≠ .own o
theorem no_of {env : List Slot} {v : Nat} {c : Slot} (h : env[v]? = some c) (hc : NoO c) : noOwn env [v] = true := by
  cases c with
  | own o => exact absurd rfl (hc o)
  | none => simp [noOwn, h]
  | val x => simp [noOwn, h]
theorem no_of2 {env : List Slot} {v w : Nat} {c d : Slot} (h : env[v]? = some c) (h2 : env[w]? = some d) (hc : NoO c) (hd : NoO d) : noOwn env [v, w] = true := by
  cases c with
  | own o => exact absurd rfl (hc o)
  | none => cases d with
    | own o => exact absurd rfl (hd o)
    | none => simp [noOwn, h, h2]
    | val x => simp [noOwn, h, h2]
  | val y => cases d with
    | own o => exact absurd rfl (hd o)
    | none => simp [noOwn, h, h2]
    | val x => simp [noOwn, h, h2]
theorem no_val (x : D) : NoO (.val x) := fun o h => nomatch h
theorem no_none : NoO .none := fun o h => nomatch h
theorem ascI_cut : ∀ (n : Nat) (xs : List Pg) (q : Int), AscI q (xs.map (·.n)) → xs.take n ≠ [] → AscI q ((xs.take n).map (·.n)) ∧ q < lastN (xs.take n) ∧ AscI (lastN (xs.take n)) ((xs.drop n).map (·.n))
  | 0, xs, q, _, h => absurd rfl h
  | n + 1, [], q, _, h => absurd rfl h
  | n + 1, x :: xs, q, ha, _ => by
    obtain ⟨h1, h2⟩ := ha
    have h1 : q < x.n := h1
    rw [List.take_succ_cons, List.drop_succ_cons]
    by_cases hn : xs.take n = []
    · rw [hn]
      refine ⟨⟨h1, trivial⟩, h1, ?_⟩
      show AscI x.n _
      have : xs.drop n = xs := by
        have := List.take_append_drop n xs
        rw [hn] at this
        simpa using this
      rw [this]
      exact h2
    · obtain ⟨i1, i2, i3⟩ := ascI_cut n xs x.n h2 hn
      have e : lastN (x :: xs.take n) = lastN (xs.take n) := by
        cases hx : xs.take n with
        | nil => exact absurd hx hn
        | cons => rfl
      rw [e]
      exact ⟨⟨h1, i1⟩, by omega, i3⟩
theorem flat4 (a b c d : Int) : flat [a, b, c, d] = num a ++ num b ++ num c ++ num d := by simp [flat]
theorem flat2 (a b : Int) : flat [a, b] = num a ++ num b := by simp [flat]
def GpW (x : Pg) : Prop := NN (gapsP x.ps (-1))
theorem rng3_up2 {i j c : Int} (h0 : -1000000 ≤ i) (h1 : i ≤ 1000000) (h2 : -1000000 ≤ j) (h3 : j ≤ 1000000) (h4 : 0 < c) (h5 : c ≤ 300000000) : rng3 i j c = some (rangeC i c (if i < j then (j - i - 1) / c + 1 else 0).toNat) := by
  have e : Builtin.Range.rangeSize i j c = if i < j then (j - i - 1) / c + 1 else 0 := by unfold Builtin.Range.rangeSize; rw [if_pos h4]
  have q : i < j → 0 ≤ (j - i - 1) / c ∧ (j - i - 1) / c * c ≤ j - i - 1 ∧ (j - i - 1) / c ≤ j - i - 1 := fun h =>
    ⟨Int.ediv_nonneg (by omega) (by omega), Int.ediv_mul_le _ (by omega), Int.ediv_le_self _ (by omega)⟩
  rw [rng3_eq, e, if_pos]
  refine ⟨by omega, by omega, ?_, by split; (rename_i h; have := (q h).1; omega); omega⟩
  unfold Builtin.Range.small
  rw [e]
  simp only [Builtin.Range.rangeFitsLong, Bool.and_eq_true, Bool.or_eq_true, decide_eq_true_eq, beq_iff_eq, h4, if_true]
  by_cases h : i < j
  · obtain ⟨q1, q2, q3⟩ := q h
    simp only [h, if_true]
    generalize (j - i - 1) / c = z at q1 q2 q3 ⊢
    refine ⟨⟨⟨⟨⟨?_, ?_⟩, ?_, ?_⟩, ?_, ?_⟩, ?_, ?_⟩, .inr ⟨?_, ?_⟩⟩ <;> omega
  · simp only [h, if_false]
    refine ⟨⟨⟨⟨⟨?_, ?_⟩, ?_, ?_⟩, ?_, ?_⟩, ?_, ?_⟩, .inl ?_⟩ <;> first | omega | rfl | simp
theorem rng_parts (rows : List Pg) (b : Nat) (hb : 0 < b) (hb2 : b ≤ 300000000) (hl : rows.length ≤ 100000) : rng3 0 rows.length b = some (rangeC 0 b (parts b rows).length) := by
  rw [rng3_up2 (by omega) (by omega) (by omega) (by omega) (by omega) (by omega), parts_len b hb]
  congr 2
  by_cases h : rows.length = 0
  · rw [h]
    simp
    rw [Nat.div_eq_of_lt (by omega)]
  · rw [if_pos (by omega)]
    have e : rows.length + b - 1 = rows.length - 1 + b := by omega
    rw [e, Nat.add_div_right _ hb]
    have e2 : ((rows.length : Int) - 0 - 1) = ((rows.length - 1 : Nat) : Int) := by omega
    rw [e2, ← Int.natCast_ediv]
    generalize (rows.length - 1) / b = z
    omega
theorem datP_len (xs : List Pg) (b : Nat) (ms : List Int) : (datP xs b ms).length = (num xs.length).length + (num b).length + (hsP (-1) (parts b xs) ms).length + (bdP (-1) (parts b xs)).length := by
  unfold datP
  simp only [List.length_append]
  omega
end K21
/-! # k21: any bytes, read: the readers as functions -/
namespace K21
open PySem PySem.Spec PyProof.Rows L2 MI
/-- refused at a place within -/
def XB (d : List Int) (x : CRes) (gl : List MObj) : Prop := ∃ p : Int, 0 ≤ p ∧ p ≤ d.length ∧ x = .exc "BadBytes" (.tup [.str "place", .int p]) gl
theorem xb_bad {d : List Int} {x : CRes} {gl : List MObj} {e : Nat} (he : e ≤ d.length) (h : x = .exc "BadBytes" (bad d e) gl) : XB d x gl := ⟨(d.length : Int) - e, by omega, by omega, h⟩
theorem rn_x {d r : List Int} {e : Nat} (gl : List MObj) (hd : d.length ≤ 5000) (h : r <:+ d) (q : rd r = .inr e) : XB d (f_read_number [.tup (IL d), .int (pos d r)] gl) gl := by
  have sp := read_number_spec gl (by omega) h
  rw [q] at sp
  have hl := h.length_le
  exact xb_bad (by omega) sp.2
theorem rn_o {d r r' : List Int} {n : Int} (gl : List MObj) (hd : d.length ≤ 5000) (h : r <:+ d) (q : rd r = .inl (n, r')) : r' <:+ d ∧ f_read_number [.tup (IL d), .int (pos d r)] gl = .ok (.tup [.int n, .int (pos d r')]) gl := by
  have sp := read_number_spec gl (by omega) h
  rw [q] at sp
  exact sp
theorem rdN_less : ∀ (r : List Int) (f n : Int) (r' : List Int), rdN r f = some (n, r') → r'.length < r.length
  | [], _, _, _, e => by cases e
  | b :: r, f, n, r', e => by
    unfold rdN at e
    split at e
    · cases e; simp
    · have := rdN_less r _ n r' e
      simp only [List.length_cons]
      omega
theorem rd_less {r r' : List Int} {n : Int} (q : rd r = .inl (n, r')) : r'.length < r.length := by
  cases r with
  | nil => cases q
  | cons b r =>
    have q : (if b = 0 then Sum.inr (r.length + 1) else match rdN (b :: r) 0 with | some x => Sum.inl x | none => Sum.inr 0) = Sum.inl (n, r') := q
    split at q
    · cases q
    · cases z : rdN (b :: r) 0 with
      | none => rw [z] at q; cases q
      | some x =>
        rw [z] at q
        cases q
        exact rdN_less _ _ _ _ z
/-! ### so many numbers -/
def rdsM : Nat → List Int → Option (List Int × List Int)
  | 0, r => some ([], r)
  | k + 1, r => match rd r with
    | .inl (n, r1) => (match rdsM k r1 with
      | some (ns, r2) => some (n :: ns, r2)
      | none => none)
    | .inr _ => none
theorem rdsM_len : ∀ (k : Nat) (r ns r' : List Int), rdsM k r = some (ns, r') → ns.length = k ∧ r'.length + k ≤ r.length
  | 0, r, ns, r', e => by cases e; exact ⟨rfl, by omega⟩
  | k + 1, r, ns, r', e => by
    unfold rdsM at e
    cases q : rd r with
    | inr z => rw [q] at e; cases e
    | inl z =>
      obtain ⟨n, r1⟩ := z
      rw [q] at e
      cases q2 : rdsM k r1 with
      | none => simp only [q2] at e; cases e
      | some z =>
        obtain ⟨ns2, r2⟩ := z
        simp only [q2] at e
        cases e
        have := rd_less q
        obtain ⟨h1, h2⟩ := rdsM_len k r1 ns2 r' q2
        exact ⟨by simp [h1], by omega⟩
theorem rdsM_good : ∀ (ns t : List Int), NN ns → rdsM ns.length (flat ns ++ t) = some (ns, t)
  | [], t, _ => rfl
  | n :: ns, t, h => by
    have e : flat (n :: ns) ++ t = num n ++ (flat ns ++ t) := by rw [flat_cons, List.append_assoc]
    show rdsM (ns.length + 1) _ = _
    unfold rdsM
    rw [e, rd_num n (h n List.mem_cons_self)]
    simp only
    rw [rdsM_good ns t fun x m => h x (List.mem_cons_of_mem _ m)]
theorem rdsM_inv : ∀ (k : Nat) (r ns r' : List Int), Byt r → rdsM k r = some (ns, r') → r = flat ns ++ r' ∧ NN ns
  | 0, r, ns, r', _, e => by cases e; exact ⟨rfl, fun _ m => (nomatch m)⟩
  | k + 1, r, ns, r', hb, e => by
    unfold rdsM at e
    cases q : rd r with
    | inr z => rw [q] at e; cases e
    | inl z =>
      obtain ⟨n, r1⟩ := z
      rw [q] at e
      obtain ⟨i1, i2⟩ := rd_inv r n r1 hb q
      cases q2 : rdsM k r1 with
      | none => simp only [q2] at e; cases e
      | some z =>
        obtain ⟨ns2, r2⟩ := z
        simp only [q2] at e
        cases e
        obtain ⟨h1, h2⟩ := rdsM_inv k r1 ns2 r' (byt_right (a := num n) (by rw [← i1]; exact hb)) q2
        refine ⟨by rw [flat_cons, i1, h1, List.append_assoc], fun x m => ?_⟩
        rcases List.mem_cons.mp m with rfl | m
        · exact i2
        · exact h2 x m
theorem rns_m {d : List Int} (gl : List MObj) (hd : d.length ≤ 5000) (many : Int) : ∀ (k : Nat) (r acc : List Int) (y : Slot), r <:+ d → ((acc.length + k : Nat) : Int) = many → acc.length + r.length ≤ 10000 →
    match rdsM k r with
    | none => ∃ (p : Int) (e : List Slot), 0 ≤ p ∧ p ≤ d.length ∧ ∃ N, whileGo t_read_numbers_1 l_read_numbers_2 N ⟨[.val (.tup (IL d)), .val (.int (pos d r)), .val (.int many), .own (.lst (IL acc)), y], gl⟩ = .exc "BadBytes" (.tup [.str "place", .int p]) ⟨e, gl⟩
    | some (ns, r') => r' <:+ d ∧ ∃ y', ∃ N, whileGo t_read_numbers_1 l_read_numbers_2 N ⟨[.val (.tup (IL d)), .val (.int (pos d r)), .val (.int many), .own (.lst (IL acc)), y], gl⟩ = .ok .nx ⟨[.val (.tup (IL d)), .val (.int (pos d r')), .val (.int many), .own (.lst (IL (acc ++ ns))), y'], gl⟩
  | 0, r, acc, y, h, hk, hl => by
    have hm' : ¬ ((acc.length : Int) < many) := by omega
    refine ⟨h, y, ?_⟩
    rw [List.append_nil]
    exact wh_stop (by simp [t_read_numbers_1, fLen, asD, lenD, hm'])
  | k + 1, r, acc, y, h, hk, hl => by
    have hm' : (acc.length : Int) < many := by omega
    have lt : t_read_numbers_1 ⟨[.val (.tup (IL d)), .val (.int (pos d r)), .val (.int many), .own (.lst (IL acc)), y], gl⟩ = .ok true ⟨[.val (.tup (IL d)), .val (.int (pos d r)), .val (.int many), .own (.lst (IL acc)), y], gl⟩ := by simp [t_read_numbers_1, fLen, asD, lenD, hm']
    unfold rdsM
    cases q : rd r with
    | inr z =>
      obtain ⟨e, e0, e1, he⟩ := rn_x gl hd h q
      refine ⟨e, _, e0, e1, wh_exc lt (s2 := ⟨[.val (.tup (IL d)), .val (.int (pos d r)), .val (.int many), .own (.lst (IL acc)), y], gl⟩) ?_⟩
      simp [l_read_numbers_2, he]
    | inl z =>
      obtain ⟨n, r1⟩ := z
      obtain ⟨h1, r1e⟩ := rn_o gl hd h q
      have hless := rd_less q
      have fa := fApp_ok (IL acc) (.int n) (by rw [List.length_map]; omega)
      have fe : IL acc ++ [.int n] = IL (acc ++ [n]) := by simp
      rw [fe] at fa
      have lb : l_read_numbers_2 ⟨[.val (.tup (IL d)), .val (.int (pos d r)), .val (.int many), .own (.lst (IL acc)), y], gl⟩ = .ok .nx ⟨[.val (.tup (IL d)), .val (.int (pos d r1)), .val (.int many), .own (.lst (IL (acc ++ [n]))), .val (.int n)], gl⟩ := by
        simp [-List.map_append, l_read_numbers_2, r1e, as_d, fa]
      have ih := rns_m gl hd many k r1 (acc ++ [n]) (.val (.int n)) h1 (by simp; omega) (by simp; omega)
      simp only
      cases q2 : rdsM k r1 with
      | none =>
        rw [q2] at ih
        obtain ⟨p, e, e0, e1, w⟩ := ih
        exact ⟨p, e, e0, e1, wh_step lt lb w⟩
      | some z =>
        obtain ⟨ns, r'⟩ := z
        rw [q2] at ih
        obtain ⟨h2, y', w⟩ := ih
        refine ⟨h2, y', wh_step lt lb ?_⟩
        rw [show acc ++ n :: ns = acc ++ [n] ++ ns by simp]
        exact w
theorem rnums_m {d : List Int} (gl : List MObj) (hd : d.length ≤ 5000) (many : Int) (h0 : 0 ≤ many) (r : List Int) (h : r <:+ d) : match rdsM many.toNat r with
    | none => XB d (f_read_numbers [.tup (IL d), .int (pos d r), .int many] gl) gl
    | some (ns, r') => r' <:+ d ∧ f_read_numbers [.tup (IL d), .int (pos d r), .int many] gl = .ok (.tup [.lst (IL ns), .int (pos d r')]) gl := by
  have hl := h.length_le
  have ih := rns_m gl hd many many.toNat r [] .none h (by simp; omega) (by simp; omega)
  cases q : rdsM many.toNat r with
  | none =>
    rw [q] at ih
    obtain ⟨p, e, e0, e1, w⟩ := ih
    have w := wh_done w (by simp)
    simp only [List.map_nil] at w
    exact ⟨p, e0, e1, by simp [f_read_numbers, mDef, List.replicate, b_read_numbers, as_new, w]⟩
  | some z =>
    obtain ⟨ns, r'⟩ := z
    rw [q] at ih
    obtain ⟨h2, y', w⟩ := ih
    have w := wh_done w (by simp)
    simp only [List.map_nil, List.nil_append] at w
    exact ⟨h2, by simp [f_read_numbers, mDef, List.replicate, b_read_numbers, as_new, w]⟩
theorem rgaps_m {d : List Int} (gl : List MObj) (hd : d.length ≤ 5000) (many b : Int) (h0 : 0 ≤ many) (r : List Int) (h : r <:+ d) : match rdsM many.toNat r with
    | none => XB d (f_read_gaps [.tup (IL d), .int (pos d r), .int many, .int b] gl) gl
    | some (gs, r') => r' <:+ d ∧ f_read_gaps [.tup (IL d), .int (pos d r), .int many, .int b] gl = .ok (.tup [.lst (IL (numsP gs b)), .int (pos d r')]) gl := by
  have sp := rnums_m gl hd many h0 r h
  have hl := h.length_le
  cases q : rdsM many.toNat r with
  | none =>
    rw [q] at sp
    obtain ⟨p, e0, e1, he⟩ := sp
    exact ⟨p, e0, e1, by simp [f_read_gaps, mDef, List.replicate, b_read_gaps, he]⟩
  | some z =>
    obtain ⟨gs, r'⟩ := z
    rw [q] at sp
    obtain ⟨h2, he⟩ := sp
    obtain ⟨l1, l2⟩ := rdsM_len _ _ _ _ q
    have e2 := numbers_of_spec gs b gl (by omega)
    exact ⟨h2, by simp [f_read_gaps, mDef, List.replicate, b_read_gaps, as_d, he, e2]⟩
/-! ### places of postings -/
def rpM : List Int → List Int → Option (List Pg × List Int)
  | [], r => some ([], r)
  | n :: ns, r => match rd r with
    | .inr _ => none
    | .inl (k, r1) => if k = 0 then none else match rdsM k.toNat r1 with
      | none => none
      | some (gs, r2) => match rpM ns r2 with
        | none => none
        | some (xs, r3) => some (⟨n, numsP gs (-1)⟩ :: xs, r3)
theorem rpM_len : ∀ (ns r : List Int) (xs : List Pg) (r' : List Int), rpM ns r = some (xs, r') → xs.length = ns.length ∧ xs.map (·.n) = ns ∧ r'.length + ns.length ≤ r.length ∧ ∀ x ∈ xs, x.ps.length ≤ r.length
  | [], r, xs, r', e => by cases e; exact ⟨rfl, rfl, by simp, fun _ m => (nomatch m)⟩
  | n :: ns, r, xs, r', e => by
    unfold rpM at e
    cases q : rd r with
    | inr z => rw [q] at e; cases e
    | inl z =>
      obtain ⟨k, r1⟩ := z
      simp only [q] at e
      split at e
      · cases e
      · cases q2 : rdsM k.toNat r1 with
        | none => simp only [q2] at e; cases e
        | some z =>
          obtain ⟨gs, r2⟩ := z
          simp only [q2] at e
          cases q3 : rpM ns r2 with
          | none => simp only [q3] at e; cases e
          | some z =>
            obtain ⟨ys, r3⟩ := z
            simp only [q3] at e
            cases e
            obtain ⟨a1, a2, a3, a4⟩ := rpM_len ns r2 ys r' q3
            obtain ⟨b1, b2⟩ := rdsM_len _ _ _ _ q2
            have := rd_less q
            refine ⟨by simp [a1], by simp [a2], by simp only [List.length_cons]; omega, fun x m => ?_⟩
            rcases List.mem_cons.mp m with rfl | m
            · show (numsP gs (-1)).length ≤ _
              rw [numsP_len]
              omega
            · have := a4 x m
              omega
theorem toNat_len (k : Nat) : ((k : Int)).toNat = k := by omega
theorem rpM_good : ∀ (xs : List Pg) (t : List Int), (∀ x ∈ xs, Gp x) → rpM (xs.map (·.n)) (pls xs ++ t) = some (xs, t)
  | [], t, _ => rfl
  | x :: xs, t, h => by
    obtain ⟨g1, g2⟩ := h x List.mem_cons_self
    have hp := List.length_pos_iff.mpr g1
    have e : pls (x :: xs) ++ t = num x.ps.length ++ (flat (gapsP x.ps (-1)) ++ (pls xs ++ t)) := by
      show (num x.ps.length ++ gb x.ps (-1) ++ pls xs) ++ t = _
      simp only [List.append_assoc]
      rfl
    rw [List.map_cons, e]
    unfold rpM
    rw [rd_num _ (by omega)]
    simp only
    rw [if_neg (by omega), toNat_len]
    have r1 := rdsM_good (gapsP x.ps (-1)) (pls xs ++ t) (ascI_gaps.mp g2)
    rw [gapsP_len] at r1
    rw [r1]
    simp only
    rw [rpM_good xs t fun y m => h y (List.mem_cons_of_mem _ m), nums_gaps]
theorem rpM_inv : ∀ (ns r : List Int) (xs : List Pg) (r' : List Int), Byt r → rpM ns r = some (xs, r') → r = pls xs ++ r' ∧ ∀ x ∈ xs, Gp x
  | [], r, xs, r', _, e => by cases e; exact ⟨rfl, fun _ m => (nomatch m)⟩
  | n :: ns, r, xs, r', hb, e => by
    unfold rpM at e
    cases q : rd r with
    | inr z => rw [q] at e; cases e
    | inl z =>
      obtain ⟨k, r1⟩ := z
      simp only [q] at e
      obtain ⟨i1, i2⟩ := rd_inv r k r1 hb q
      split at e
      · cases e
      · rename_i hk0
        have hb1 : Byt r1 := byt_right (a := num k) (by rw [← i1]; exact hb)
        cases q2 : rdsM k.toNat r1 with
        | none => simp only [q2] at e; cases e
        | some z =>
          obtain ⟨gs, r2⟩ := z
          simp only [q2] at e
          obtain ⟨j1, j2⟩ := rdsM_inv _ _ _ _ hb1 q2
          obtain ⟨b1, b2⟩ := rdsM_len _ _ _ _ q2
          have hb2 : Byt r2 := byt_right (a := flat gs) (by rw [← j1]; exact hb1)
          cases q3 : rpM ns r2 with
          | none => simp only [q3] at e; cases e
          | some z =>
            obtain ⟨ys, r3⟩ := z
            simp only [q3] at e
            cases e
            obtain ⟨a1, a2⟩ := rpM_inv ns r2 ys r' hb2 q3
            refine ⟨?_, fun x m => ?_⟩
            · show r = (num ((numsP gs (-1)).length : Nat) ++ flat (gapsP (numsP gs (-1)) (-1)) ++ pls ys) ++ r'
              rw [numsP_len, gaps_nums, i1, j1, a1, show ((gs.length : Nat) : Int) = k by omega]
              simp only [List.append_assoc]
            · rcases List.mem_cons.mp m with rfl | m
              · refine ⟨fun z => ?_, ascI_gaps.mpr (by show NN (gapsP (numsP gs (-1)) (-1)); rw [gaps_nums]; exact j2)⟩
                have := congrArg List.length z
                have : (numsP gs (-1)).length = 0 := this
                rw [numsP_len] at this
                omega
              · exact a2 x m
/-! ### a block -/
def rbM (size q t0 t1 t2 : Int) (r : List Int) : Option (List Pg) := match rdsM size.toNat r with
  | none => none
  | some (gs, r1) => match rpM (numsP gs q) r1 with
    | none => none
    | some (xs, r2) => if r2 = [] ∧ lastN xs = t0 ∧ maxL (cnts xs) = t1 ∧ minL (cnts xs) ≤ t2 then some xs else none
theorem rbM_good (xs : List Pg) (q t2 : Int) (h : ∀ x ∈ xs, Gp x) (ha : AscI q (xs.map (·.n))) (h2 : minL (cnts xs) ≤ t2) : rbM xs.length q (lastN xs) (maxL (cnts xs)) t2 (blk q xs) = some xs := by
  have r1 := rdsM_good (gapsP (xs.map (·.n)) q) (pls xs ++ []) (ascI_gaps.mp ha)
  rw [gapsP_len, List.length_map] at r1
  unfold rbM
  rw [toNat_len, show blk q xs = flat (gapsP (xs.map (·.n)) q) ++ (pls xs ++ []) by unfold blk gb; rw [List.append_nil], r1]
  simp only
  rw [nums_gaps, rpM_good xs [] h]
  simp only
  rw [if_pos ⟨trivial, trivial, trivial, h2⟩]
theorem rbM_inv {size q t0 t1 t2 : Int} {r : List Int} {xs : List Pg} (hb : Byt r) (h0 : 0 ≤ size) (e : rbM size q t0 t1 t2 r = some xs) : (xs.length : Int) = size ∧ (∀ x ∈ xs, Gp x) ∧ AscI q (xs.map (·.n)) ∧ r = blk q xs ∧ lastN xs = t0 ∧ maxL (cnts xs) = t1 ∧ minL (cnts xs) ≤ t2 := by
  unfold rbM at e
  cases q1 : rdsM size.toNat r with
  | none => rw [q1] at e; cases e
  | some z =>
    obtain ⟨gs, r1⟩ := z
    simp only [q1] at e
    obtain ⟨j1, j2⟩ := rdsM_inv _ _ _ _ hb q1
    obtain ⟨l1, l2⟩ := rdsM_len _ _ _ _ q1
    cases q2 : rpM (numsP gs q) r1 with
    | none => simp only [q2] at e; cases e
    | some z =>
      obtain ⟨ys, r2⟩ := z
      simp only [q2] at e
      split at e
      · rename_i hc
        cases e
        obtain ⟨c1, c2, c3, c4⟩ := hc
        obtain ⟨k1, k2⟩ := rpM_inv _ _ _ _ (byt_right (a := flat gs) (by rw [← j1]; exact hb)) q2
        obtain ⟨m1, m2, m3, m4⟩ := rpM_len _ _ _ _ q2
        rw [numsP_len] at m1
        refine ⟨by omega, k2, ?_, ?_, c2, c3, c4⟩
        · rw [m2]
          exact ascI_gaps.mpr (by rw [gaps_nums]; exact j2)
        · unfold blk gb
          rw [m2, gaps_nums, j1, k1, c1, List.append_nil]
      · cases e
end K21
/-! # k21: a block, read -/
namespace K21
open PySem PySem.Spec PyProof.Rows L2 MI
theorem fc_ok {t : D → S → Option S} {p : S → Res Out} {d : D} {ds : List D} {s s1 s2 : S} (h : t d s = some s1) (h2 : p s1 = .ok .nx s2) : forGo t p (d :: ds) s = forGo t p ds s2 := by
  rw [forGo_cons, h]
  simp only [h2]
theorem fc_exc {t : D → S → Option S} {p : S → Res Out} {d : D} {ds : List D} {s s1 s2 : S} {c : Str} {y : D} (h : t d s = some s1) (h2 : p s1 = .exc c y s2) : forGo t p (d :: ds) s = .exc c y s2 := by
  rw [forGo_cons, h]
  simp only [h2]
theorem rd_nn {r r' : List Int} {n : Int} (hb : Byt r) (q : rd r = .inl (n, r')) : 0 ≤ n := (rd_inv r n r' hb q).2
theorem pos_num {d r r' : List Int} {n : Int} (q : rd r = .inl (n, r')) (h : r <:+ d) (h' : r' <:+ d) : 1 ≤ pos d r' ∧ pos d r' ≤ d.length := by
  have := rd_less q
  have := h.length_le
  have := h'.length_le
  unfold pos
  omega
theorem rb_loop {p : List Int} (gl : List MObj) (hp : p.length ≤ 5000) (hB : Byt p) (c0 c1 c5 c6 c7 c8 c9 c10 c11 c15 : Slot) : ∀ (ns r : List Int) (acc : List Pg) (c4 c13 c14 : Slot), r <:+ p → acc.length + ns.length ≤ 10000 →
    match rpM ns r with
    | none => ∃ (z : Int) (e : List Slot), 0 ≤ z ∧ z ≤ p.length ∧ forGo (tgName 4) l_read_block_2 (IL ns) ⟨[c0, c1, .val (.tup (IL p)), .own (.lst (acc.map pgD)), c4, c5, c6, c7, c8, c9, c10, c11, .val (.int (pos p r)), c13, c14, c15], gl⟩ = .exc "BadBytes" (.tup [.str "place", .int z]) ⟨e, gl⟩
    | some (xs, r') => r' <:+ p ∧ ∃ c4' c13' c14', (NoO c14 → NoO c14') ∧ forGo (tgName 4) l_read_block_2 (IL ns) ⟨[c0, c1, .val (.tup (IL p)), .own (.lst (acc.map pgD)), c4, c5, c6, c7, c8, c9, c10, c11, .val (.int (pos p r)), c13, c14, c15], gl⟩ = .ok .nx ⟨[c0, c1, .val (.tup (IL p)), .own (.lst ((acc ++ xs).map pgD)), c4', c5, c6, c7, c8, c9, c10, c11, .val (.int (pos p r')), c13', c14', c15], gl⟩
  | [], r, acc, c4, c13, c14, h, hl => ⟨h, c4, c13, c14, id, by simp [forGo]⟩
  | n :: ns, r, acc, c4, c13, c14, h, hl => by
    simp only [List.length_cons] at hl
    have ng : ∀ s, fNeg s (.d (.int 1)) = .ok (.d (.int (-1))) s := fun s => rfl
    have hd : ∀ st : S, tgName 4 (.int n) ⟨[c0, c1, .val (.tup (IL p)), .own (.lst (acc.map pgD)), c4, c5, c6, c7, c8, c9, c10, c11, .val (.int (pos p r)), c13, c14, c15], gl⟩ = some ⟨[c0, c1, .val (.tup (IL p)), .own (.lst (acc.map pgD)), .val (.int n), c5, c6, c7, c8, c9, c10, c11, .val (.int (pos p r)), c13, c14, c15], gl⟩ := fun st => by
      rw [ap_tgName, as_d (by simp)]
      rfl
    unfold rpM
    cases q : rd r with
    | inr z =>
      obtain ⟨e, e0, e1, he⟩ := rn_x gl hp h q
      have st : l_read_block_2 ⟨[c0, c1, .val (.tup (IL p)), .own (.lst (acc.map pgD)), .val (.int n), c5, c6, c7, c8, c9, c10, c11, .val (.int (pos p r)), c13, c14, c15], gl⟩ = .exc "BadBytes" (.tup [.str "place", .int e]) ⟨[c0, c1, .val (.tup (IL p)), .own (.lst (acc.map pgD)), .val (.int n), c5, c6, c7, c8, c9, c10, c11, .val (.int (pos p r)), c13, c14, c15], gl⟩ := by
        simp [-List.map_append, l_read_block_2, he]
      exact ⟨e, _, e0, e1, fc_exc (hd ⟨[], gl⟩) st⟩
    | inl z =>
      obtain ⟨k, r1⟩ := z
      obtain ⟨h1, r1e⟩ := rn_o gl hp h q
      obtain ⟨p0, p1⟩ := pos_num q h h1
      simp only
      by_cases hk : k = 0
      · rw [if_pos hk]
        subst hk
        have b0 : (pos p r1 - 1).natAbs ≤ 1000000 := by omega
        have st : ∃ e, l_read_block_2 ⟨[c0, c1, .val (.tup (IL p)), .own (.lst (acc.map pgD)), .val (.int n), c5, c6, c7, c8, c9, c10, c11, .val (.int (pos p r)), c13, c14, c15], gl⟩ = .exc "BadBytes" (.tup [.str "place", .int (pos p r1 - 1)]) ⟨e, gl⟩ := by
          simp [-List.map_append, l_read_block_2, r1e, as_d, b0]
        obtain ⟨e, st⟩ := st
        exact ⟨pos p r1 - 1, e, by omega, by omega, fc_exc (hd ⟨[], gl⟩) st⟩
      · rw [if_neg hk]
        have kk : 0 ≤ k := rd_nn (fun b m => hB b (h.subset m)) q
        have sp := rgaps_m gl hp k (-1) kk r1 h1
        cases q2 : rdsM k.toNat r1 with
        | none =>
          rw [q2] at sp
          obtain ⟨e, e0, e1, he⟩ := sp
          have st : ∃ w, l_read_block_2 ⟨[c0, c1, .val (.tup (IL p)), .own (.lst (acc.map pgD)), .val (.int n), c5, c6, c7, c8, c9, c10, c11, .val (.int (pos p r)), c13, c14, c15], gl⟩ = .exc "BadBytes" (.tup [.str "place", .int e]) ⟨w, gl⟩ := by
            simp [-List.map_append, l_read_block_2, r1e, as_d, hk, he]
          obtain ⟨w, st⟩ := st
          exact ⟨e, w, e0, e1, fc_exc (hd ⟨[], gl⟩) st⟩
        | some z =>
          obtain ⟨gs, r2⟩ := z
          rw [q2] at sp
          obtain ⟨h2, he⟩ := sp
          have fa := fApp_ok (acc.map pgD) (pgD ⟨n, numsP gs (-1)⟩) (by rw [List.length_map]; omega)
          have fe : acc.map pgD ++ [pgD ⟨n, numsP gs (-1)⟩] = (acc ++ [(⟨n, numsP gs (-1)⟩ : Pg)]).map pgD := by simp
          rw [fe] at fa
          have ft : ∀ s, fTuple s (.d (.lst (IL (numsP gs (-1))))) = .ok (.d (.tup (IL (numsP gs (-1))))) s := fun s => rfl
          have st : l_read_block_2 ⟨[c0, c1, .val (.tup (IL p)), .own (.lst (acc.map pgD)), .val (.int n), c5, c6, c7, c8, c9, c10, c11, .val (.int (pos p r)), c13, c14, c15], gl⟩ = .ok .nx ⟨[c0, c1, .val (.tup (IL p)), .own (.lst ((acc ++ [(⟨n, numsP gs (-1)⟩ : Pg)]).map pgD)), .val (.int n), c5, c6, c7, c8, c9, c10, c11, .val (.int (pos p r2)), .val (.int k), .val (.lst (IL (numsP gs (-1)))), c15], gl⟩ := by
            have fa' : fAppend (acc.map pgD) (.tup [.int n, .tup (IL (numsP gs (-1)))]) = some (.non, (acc ++ [(⟨n, numsP gs (-1)⟩ : Pg)]).map pgD) := fa
            generalize IL (numsP gs (-1)) = L at he ft fa' ⊢
            simp [-List.map_append, l_read_block_2, r1e, as_d, hk, he, ft, fa']
          have ih := rb_loop gl hp hB c0 c1 c5 c6 c7 c8 c9 c10 c11 c15 ns r2 (acc ++ [(⟨n, numsP gs (-1)⟩ : Pg)]) (.val (.int n)) (.val (.int k)) (.val (.lst (IL (numsP gs (-1))))) h2 (by simp; omega)
          simp only
          cases q3 : rpM ns r2 with
          | none =>
            rw [q3] at ih
            obtain ⟨z, e, e0, e1, w⟩ := ih
            exact ⟨z, e, e0, e1, (fc_ok (hd ⟨[], gl⟩) st).trans w⟩
          | some z =>
            obtain ⟨xs, r'⟩ := z
            rw [q3] at ih
            obtain ⟨h3, d4, d13, d14, kk, w⟩ := ih
            refine ⟨h3, d4, d13, d14, fun _ => kk (no_val _), ?_⟩
            refine (fc_ok (hd ⟨[], gl⟩) st).trans (w.trans ?_)
            simp
end K21
/-! # k21: read_block -/
namespace K21
open PySem PySem.Spec PyProof.Rows L2 MI
theorem fold_of {f : List Int → Int} {s : S} {r : RV} {l : List Int} (h : asD s r = some (.lst (IL l))) (hne : l ≠ []) : fFold f true s r = .ok (.d (.int (f l))) s := by
  unfold fFold
  rw [h]
  simp only [intsOf_il]
  have e : l.isEmpty = false := by
    cases l with
    | nil => exact absurd rfl hne
    | cons => rfl
  simp [e]
theorem last_nums {xs : List Pg} (h : xs ≠ []) : atI (IL (xs.map (·.n))) (-1) = some (.int (lastN xs)) := by
  rcases List.eq_nil_or_concat xs with rfl | ⟨q, x, rfl⟩
  · exact absurd rfl h
  · rw [List.concat_eq_append, lastN_app, List.map_append]
    show atI (List.map D.int (_ ++ [x.n])) (-1) = _
    rw [List.map_append]
    exact atI_last _ _
theorem rb_counts (c0 c1 c2 c4 c5 c6 c7 c8 c9 c10 c11 c12 c13 c14 c15 : Slot) (h14 : NoO c14) (h15 : NoO c15) (gl : List MObj) (xs : List Pg) (hl : xs.length ≤ 100000) : mComp [15, 14] (iSeq (mVar 3)) (tgTup [15, 14]) mYes e_read_block_1 ⟨[c0, c1, c2, .own (.lst (xs.map pgD)), c4, c5, c6, c7, c8, c9, c10, c11, c12, c13, c14, c15], gl⟩ = .ok (.new (.lst (IL (cnts xs)))) ⟨[c0, c1, c2, .val (.lst (xs.map pgD)), c4, c5, c6, c7, c8, c9, c10, c11, c12, c13, c14, c15], gl⟩ := by
  have e : IL (cnts xs) = xs.map fun x => D.int (x.ps.length : Nat) := by unfold cnts; show List.map D.int (List.map _ _) = _; rw [List.map_map]; rfl
  rw [e]
  refine comp_mapG xs pgD (fun x => D.int (x.ps.length : Nat)) (by simp [iSeq, leak, frzO]) (no_of2 rfl rfl h15 h14) (by omega) fun x m => ?_
  have ln : ∀ s, fLen s (.d (.tup (IL x.ps))) = .ok (.d (.int x.ps.length)) s := fun s => by rw [q_lenT, List.length_map]
  refine ⟨[c0, c1, c2, .val (.lst (xs.map pgD)), c4, c5, c6, c7, c8, c9, c10, c11, c12, c13, .val (.tup (IL x.ps)), .val (.int x.n)], [c0, c1, c2, .val (.lst (xs.map pgD)), c4, c5, c6, c7, c8, c9, c10, c11, c12, c13, .val (.tup (IL x.ps)), .val (.int x.n)], by simp [wipeE, pgD, as_d], by simp [e_read_block_1, ln], rfl⟩
def rowD (size q t0 t1 t2 pl ln : Int) : D := .tup [.int size, .int q, .tup [.int t0, .int t1, .int t2], .int pl, .int ln]
theorem rb_m {d pre r post : List Int} (gl : List MObj) (hd : d.length ≤ 5000) (hB : Byt d) (hdd : d = pre ++ (r ++ post)) (size q t0 t1 t2 : Int) (hs : 0 < size) : match rbM size q t0 t1 t2 r with
    | none => XB d (f_read_block [.tup (IL d), rowD size q t0 t1 t2 pre.length r.length] gl) gl
    | some xs => f_read_block [.tup (IL d), rowD size q t0 t1 t2 pre.length r.length] gl = .ok (.tup (xs.map pgD)) gl := by
  have hpl : pre.length + r.length ≤ d.length := by rw [hdd]; simp only [List.length_append]; omega
  have hBp : Byt (pre ++ r) := fun b m => hB b (by rw [hdd, ← List.append_assoc]; exact List.mem_append_left _ m)
  have sl : ∀ s, opSl none (some ((pre.length : Int) + r.length)) s (.d (.tup (IL d))) = .ok (.d (.tup (IL (pre ++ r)))) s := fun s => by
    rw [q_slT, show ((pre.length : Int) + r.length) = ((pre.length + r.length : Nat) : Int) by omega, cut_hi (by omega)]
    congr 3
    rw [hdd, ← List.append_assoc, ← List.length_append, List.take_left']
    rfl
  have lp : (pre ++ r).length = pre.length + r.length := List.length_append
  have ep : (pre.length : Int) = pos (pre ++ r) r := by unfold pos; rw [lp]; omega
  have suf : r <:+ pre ++ r := List.suffix_append _ _
  generalize hp : pre ++ r = p at hBp sl lp ep suf
  have pl5 : p.length ≤ 5000 := by omega
  have sp := rgaps_m gl pl5 size q (by omega) r suf
  unfold rbM rowD
  cases q1 : rdsM size.toNat r with
  | none =>
    rw [q1] at sp
    obtain ⟨e, e0, e1, he⟩ := sp
    rw [← ep] at he
    exact ⟨e, e0, by omega, by simp [f_read_block, mDef, List.replicate, b_read_block, as_d, asInt, sl, he]⟩
  | some z =>
    obtain ⟨gs, r1⟩ := z
    rw [q1] at sp
    obtain ⟨h1, he⟩ := sp
    rw [← ep] at he
    obtain ⟨l1, l2⟩ := rdsM_len _ _ _ _ q1
    have hl := suf.length_le
    have hns : (numsP gs q).length ≤ 5000 := by rw [numsP_len]; omega
    have lo := rb_loop gl pl5 hBp (.val (.tup (IL d))) (.val (rowD size q t0 t1 t2 pre.length r.length)) .none (.val (.int size)) (.val (.int q)) (.val (.tup [.int t0, .int t1, .int t2])) (.val (.int pre.length)) (.val (.int r.length)) (.val (.lst (IL (numsP gs q)))) .none (numsP gs q) r1 [] .none .none .none h1 (by simp; omega)
    simp only
    cases q2 : rpM (numsP gs q) r1 with
    | none =>
      rw [q2] at lo
      obtain ⟨z, e, e0, e1, w⟩ := lo
      simp only [List.map_nil] at w
      unfold rowD at w
      refine ⟨z, e0, by omega, ?_⟩
      generalize IL (numsP gs q) = L at he w
      simp [f_read_block, mDef, List.replicate, b_read_block, as_d, asInt, sl, he, as_new, w]
    | some z =>
      obtain ⟨xs, r2⟩ := z
      rw [q2] at lo
      obtain ⟨h2, d4, d13, d14, k14, w⟩ := lo
      have k14 := k14 no_none
      simp only [List.map_nil, List.nil_append] at w
      unfold rowD at w
      obtain ⟨m1, m2, m3, m4⟩ := rpM_len _ _ _ _ q2
      rw [numsP_len] at m1
      have hne : xs ≠ [] := fun z => by rw [z] at m1; simp at m1; omega
      have cs := rb_counts (.val (.tup (IL d))) (.val (.tup [.int size, .int q, .tup [.int t0, .int t1, .int t2], .int pre.length, .int r.length])) (.val (.tup (IL p))) d4 .none (.val (.int size)) (.val (.int q)) (.val (.tup [.int t0, .int t1, .int t2])) (.val (.int pre.length)) (.val (.int r.length)) (.val (.lst (IL (numsP gs q)))) (.val (.int (pos p r2))) d13 d14 .none k14 no_none gl xs (by omega)
      have la := last_nums hne
      rw [m2] at la
      have ix1 : ∀ s, opIx s (.d (.lst (IL (numsP gs q)))) (.d (.int (-1))) = .ok (.d (.int (lastN xs))) s := fun s => q_ixL rfl la
      have ix2 : ∀ s, opIx s (.d (.tup [.int t0, .int t1, .int t2])) (.d (.int 0)) = .ok (.d (.int t0)) s := fun s => q_ixT rfl
      have ix3 : ∀ s, opIx s (.d (.tup [.int t0, .int t1, .int t2])) (.d (.int 1)) = .ok (.d (.int t1)) s := fun s => q_ixT rfl
      have ix4 : ∀ s, opIx s (.d (.tup [.int t0, .int t1, .int t2])) (.d (.int 2)) = .ok (.d (.int t2)) s := fun s => q_ixT rfl
      have mx : ∀ s, asD s (.at 5) = some (.lst (IL (cnts xs))) → fFold maxL true s (.at 5) = .ok (.d (.int (maxL (cnts xs)))) s := fun s h => fold_of h (cnts_ne hne)
      have mn : ∀ s, asD s (.at 5) = some (.lst (IL (cnts xs))) → fFold minL true s (.at 5) = .ok (.d (.int (minL (cnts xs)))) s := fun s h => fold_of h (cnts_ne hne)
      have ng : ∀ s, fNeg s (.d (.int 1)) = .ok (.d (.int (-1))) s := fun s => rfl
      have hp2 : (pos p r2 = (pre.length : Int) + r.length) ↔ r2 = [] := by
        unfold pos
        rw [lp]
        constructor
        · intro z
          exact List.length_eq_zero_iff.mp (by omega)
        · rintro rfl
          simp
      have ei : ∀ (a b : Int) (s : S), opEq true s (.d (.int a)) (.d (.int b)) = .ok (.d (.bl (!decide (a = b)))) s := fun a b s => by
        rw [q_eqI]
        by_cases z : a = b
        · rw [z]; simp
        · rw [decide_eq_false z, beq_false_of_ne z]; rfl
      have eT : ∀ {a b : Int} (h : a = b) (s : S), opEq true s (.d (.int a)) (.d (.int b)) = .ok (.d (.bl false)) s := fun h s => by rw [ei, decide_eq_true h]; rfl
      have eF : ∀ {a b : Int} (h : ¬ a = b) (s : S), opEq true s (.d (.int a)) (.d (.int b)) = .ok (.d (.bl true)) s := fun h s => by rw [ei, decide_eq_false h]; rfl
      have ft : ∀ s, fTuple s (.d (.lst (xs.map pgD))) = .ok (.d (.tup (xs.map pgD))) s := fun s => rfl
      have bn : pre.length ≤ 1000000 := by omega
      generalize IL (numsP gs q) = L at he w cs ix1
      generalize hC : IL (cnts xs) = C at cs mx mn
      show match (if r2 = [] ∧ lastN xs = t0 ∧ maxL (cnts xs) = t1 ∧ minL (cnts xs) ≤ t2 then some xs else none) with
        | none => _
        | some xs => _
      by_cases k1 : r2 = []
      · have e1 := eT (hp2.mpr k1)
        by_cases k2 : lastN xs = t0
        · have e2 := eT k2
          by_cases k3 : maxL (cnts xs) = t1
          · have e3 := eT k3
            by_cases k4 : minL (cnts xs) ≤ t2
            · rw [if_pos ⟨k1, k2, k3, k4⟩]
              have k4' : ¬ t2 < minL (cnts xs) := by omega
              simp [-ap_Comp, -List.map_append, -q_eqI, f_read_block, mDef, List.replicate, b_read_block, as_d, asInt, sl, he, as_new, w, cs, ix1, ix2, ix3, ix4, mx, mn, asD, asLst, e1, e2, e3, k4', ft]
            · rw [if_neg fun z => k4 z.2.2.2]
              have k4' : t2 < minL (cnts xs) := by omega
              refine ⟨pre.length, by omega, by omega, ?_⟩
              simp [-ap_Comp, -List.map_append, -q_eqI, f_read_block, mDef, List.replicate, b_read_block, as_d, asInt, sl, he, as_new, w, cs, ix1, ix2, ix3, ix4, mx, mn, asD, asLst, e1, e2, e3, k4', bn]
          · rw [if_neg fun z => k3 z.2.2.1]
            have e3 := eF k3
            refine ⟨pre.length, by omega, by omega, ?_⟩
            simp [-ap_Comp, -List.map_append, -q_eqI, f_read_block, mDef, List.replicate, b_read_block, as_d, asInt, sl, he, as_new, w, cs, ix1, ix2, ix3, ix4, mx, mn, asD, asLst, e1, e2, e3, bn]
        · rw [if_neg fun z => k2 z.2.1]
          have e2 := eF k2
          refine ⟨pre.length, by omega, by omega, ?_⟩
          simp [-ap_Comp, -List.map_append, -q_eqI, f_read_block, mDef, List.replicate, b_read_block, as_d, asInt, sl, he, as_new, w, cs, ix1, ix2, ix3, ix4, mx, mn, asD, asLst, e1, e2, bn]
      · rw [if_neg fun z => k1 z.1]
        have e1 := eF fun z => k1 (hp2.mp z)
        refine ⟨pre.length, by omega, by omega, ?_⟩
        simp [-ap_Comp, -List.map_append, -q_eqI, f_read_block, mDef, List.replicate, b_read_block, as_d, asInt, sl, he, as_new, w, cs, ix1, ix2, ix3, ix4, mx, mn, asD, asLst, e1, bn]
end K21
/-! # k21: read_table -/
namespace K21
open PySem PySem.Spec PyProof.Rows L2 MI
structure Tr where
  g : Int
  gr : Int
  le : Int
  ln : Int
def rd4 (r : List Int) : Option (Tr × List Int) := match rdsM 4 r with
  | some ([g, gr, le, ln], r1) => some (⟨g, gr, le, ln⟩, r1)
  | _ => none
theorem rd4_of {r ns r1 : List Int} (h : rdsM 4 r = some (ns, r1)) : ∃ g gr le ln, ns = [g, gr, le, ln] ∧ rd4 r = some (⟨g, gr, le, ln⟩, r1) := by
  obtain ⟨h1, _⟩ := rdsM_len _ _ _ _ h
  match ns, h1 with
  | [a, b, c, d], _ => exact ⟨a, b, c, d, rfl, by unfold rd4; rw [h]⟩
theorem rd4_none {r : List Int} (h : rdsM 4 r = none) : rd4 r = none := by unfold rd4; rw [h]
theorem rd4_less {r r1 : List Int} {t : Tr} (h : rd4 r = some (t, r1)) : r1.length + 4 ≤ r.length := by
  cases q : rdsM 4 r with
  | none => rw [rd4_none q] at h; cases h
  | some z =>
    obtain ⟨ns, r2⟩ := z
    obtain ⟨g, gr, le, ln, e, e2⟩ := rd4_of q
    rw [e2] at h
    cases h
    exact (rdsM_len _ _ _ _ q).2
/-- so many rows of the table as are left -/
def rtR (b : Int) : Nat → Int → List Int → Option (List Tr × List Int)
  | 0, left, r => if left ≤ 0 then some ([], r) else none
  | f + 1, left, r => if left ≤ 0 then some ([], r) else match rd4 r with
    | none => none
    | some (t, r1) => match rtR b f (left - b) r1 with
      | none => none
      | some (ts, r2) => some (t :: ts, r2)
def rows1 (b : Int) : Int → Int → List Tr → List D
  | _, _, [] => []
  | left, q, t :: ts => .tup [.int (minI b left), .int q, .tup [.int (q + 1 + t.g), .int t.gr, .int t.le], .int t.ln] :: rows1 b (left - b) (q + 1 + t.g) ts
theorem rows1_len (b : Int) : ∀ (left q : Int) (ts : List Tr), (rows1 b left q ts).length = ts.length
  | _, _, [] => rfl
  | left, q, t :: ts => by rw [rows1, List.length_cons, List.length_cons, rows1_len]
def tabD (b : Int) : Int → Int → Int → List Tr → List D
  | _, _, _, [] => []
  | left, q, pl, t :: ts => rowD (minI b left) q (q + 1 + t.g) t.gr t.le pl t.ln :: tabD b (left - b) (q + 1 + t.g) (pl + t.ln) ts
def sumT : List Tr → Int
  | [] => 0
  | t :: ts => t.ln + sumT ts
theorem rtR_len (b : Int) : ∀ (f : Nat) (left : Int) (r : List Int) (ts : List Tr) (r' : List Int), rtR b f left r = some (ts, r') → r'.length + 4 * ts.length ≤ r.length
  | 0, left, r, ts, r', e => by
    unfold rtR at e
    split at e
    · cases e; simp
    · cases e
  | f + 1, left, r, ts, r', e => by
    unfold rtR at e
    split at e
    · cases e; simp
    · cases q : rd4 r with
      | none => simp only [q] at e; cases e
      | some z =>
        obtain ⟨t, r1⟩ := z
        simp only [q] at e
        cases q2 : rtR b f (left - b) r1 with
        | none => simp only [q2] at e; cases e
        | some z =>
          obtain ⟨ts', r2⟩ := z
          simp only [q2] at e
          cases e
          have := rtR_len b f _ _ _ _ q2
          have := rd4_less q
          simp only [List.length_cons]
          omega
theorem rt_m {d : List Int} (gl : List MObj) (hd : d.length ≤ 5000) (b : Int) (c1 c6 c7 c8 c10 : Slot) : ∀ (f : Nat) (r : List Int) (acc : List D) (left q : Int) (c9 c12 c13 c14 : Slot), r.length ≤ f → r <:+ d → acc.length + r.length ≤ 10000 →
    match rtR b f left r with
    | none => ∃ (p : Int) (e : List Slot), 0 ≤ p ∧ p ≤ d.length ∧ ∃ N, whileGo t_read_table_2 l_read_table_3 N ⟨[.val (.tup (IL d)), c1, .val (.int (pos d r)), .own (.lst acc), .val (.int left), .val (.int q), c6, c7, c8, c9, c10, .val (.int b), c12, c13, c14], gl⟩ = .exc "BadBytes" (.tup [.str "place", .int p]) ⟨e, gl⟩
    | some (ts, r') => r' <:+ d ∧ ∃ left' q' c9' c12' c13' c14', ∃ N, whileGo t_read_table_2 l_read_table_3 N ⟨[.val (.tup (IL d)), c1, .val (.int (pos d r)), .own (.lst acc), .val (.int left), .val (.int q), c6, c7, c8, c9, c10, .val (.int b), c12, c13, c14], gl⟩
        = .ok .nx ⟨[.val (.tup (IL d)), c1, .val (.int (pos d r')), .own (.lst (acc ++ rows1 b left q ts)), .val (.int left'), .val (.int q'), c6, c7, c8, c9', c10, .val (.int b), c12', c13', c14'], gl⟩ := by
  intro f
  induction f with
  | zero =>
    intro r acc left q c9 c12 c13 c14 hf h hl
    unfold rtR
    by_cases hz : left ≤ 0
    · rw [if_pos hz]
      have hz' : ¬ (0 < left) := by omega
      refine ⟨h, left, q, c9, c12, c13, c14, ?_⟩
      rw [rows1, List.append_nil]
      exact wh_stop (by simp [t_read_table_2, hz'])
    · rw [if_neg hz]
      have hz' : 0 < left := by omega
      have er : r = [] := List.length_eq_zero_iff.mp (by omega)
      have sp := rnums_m gl hd 4 (by omega) r h
      have q4 : rdsM (4 : Int).toNat r = none := by rw [er]; rfl
      rw [q4] at sp
      obtain ⟨e, e0, e1, he⟩ := sp
      refine ⟨e, _, e0, e1, wh_exc (s1 := ⟨[.val (.tup (IL d)), c1, .val (.int (pos d r)), .own (.lst acc), .val (.int left), .val (.int q), c6, c7, c8, c9, c10, .val (.int b), c12, c13, c14], gl⟩) (by simp [t_read_table_2, hz']) (s2 := ⟨[.val (.tup (IL d)), c1, .val (.int (pos d r)), .own (.lst acc), .val (.int left), .val (.int q), c6, c7, c8, c9, c10, .val (.int b), c12, c13, c14], gl⟩) ?_⟩
      simp [l_read_table_3, he]
  | succ f ih =>
    intro r acc left q c9 c12 c13 c14 hf h hl
    unfold rtR
    by_cases hz : left ≤ 0
    · rw [if_pos hz]
      have hz' : ¬ (0 < left) := by omega
      refine ⟨h, left, q, c9, c12, c13, c14, ?_⟩
      rw [rows1, List.append_nil]
      exact wh_stop (by simp [t_read_table_2, hz'])
    · rw [if_neg hz]
      have hz' : 0 < left := by omega
      have lt : t_read_table_2 ⟨[.val (.tup (IL d)), c1, .val (.int (pos d r)), .own (.lst acc), .val (.int left), .val (.int q), c6, c7, c8, c9, c10, .val (.int b), c12, c13, c14], gl⟩ = .ok true ⟨[.val (.tup (IL d)), c1, .val (.int (pos d r)), .own (.lst acc), .val (.int left), .val (.int q), c6, c7, c8, c9, c10, .val (.int b), c12, c13, c14], gl⟩ := by simp [t_read_table_2, hz']
      have sp := rnums_m gl hd 4 (by omega) r h
      cases q4 : rdsM 4 r with
      | none =>
        have q4' : rdsM (4 : Int).toNat r = none := q4
        rw [q4'] at sp
        rw [rd4_none q4]
        obtain ⟨e, e0, e1, he⟩ := sp
        refine ⟨e, _, e0, e1, wh_exc lt (s2 := ⟨[.val (.tup (IL d)), c1, .val (.int (pos d r)), .own (.lst acc), .val (.int left), .val (.int q), c6, c7, c8, c9, c10, .val (.int b), c12, c13, c14], gl⟩) ?_⟩
        simp [l_read_table_3, he]
      | some z =>
        obtain ⟨ns, r1⟩ := z
        have q4' : rdsM (4 : Int).toNat r = some (ns, r1) := q4
        rw [q4'] at sp
        obtain ⟨g, gr, le, ln, rfl, e4⟩ := rd4_of q4
        have hless := rd4_less e4
        rw [e4]
        obtain ⟨h1, he⟩ := sp
        have fa := fApp_ok acc (.tup [.int (minI b left), .int q, .tup [.int (q + 1 + g), .int gr, .int le], .int ln]) (by omega)
        have lb : l_read_table_3 ⟨[.val (.tup (IL d)), c1, .val (.int (pos d r)), .own (.lst acc), .val (.int left), .val (.int q), c6, c7, c8, c9, c10, .val (.int b), c12, c13, c14], gl⟩ = .ok .nx ⟨[.val (.tup (IL d)), c1, .val (.int (pos d r1)), .own (.lst (acc ++ [.tup [.int (minI b left), .int q, .tup [.int (q + 1 + g), .int gr, .int le], .int ln]])), .val (.int (left - b)), .val (.int (q + 1 + g)), c6, c7, c8, .val (.int ln), c10, .val (.int b), .val (.int g), .val (.int gr), .val (.int le)], gl⟩ := by
          simp [l_read_table_3, he, as_d, fa]
        have w0 := ih r1 (acc ++ [.tup [.int (minI b left), .int q, .tup [.int (q + 1 + g), .int gr, .int le], .int ln]]) (left - b) (q + 1 + g) (.val (.int ln)) (.val (.int g)) (.val (.int gr)) (.val (.int le)) (by omega) h1 (by simp; omega)
        simp only
        cases q5 : rtR b f (left - b) r1 with
        | none =>
          rw [q5] at w0
          obtain ⟨p, e, e0, e1, w⟩ := w0
          exact ⟨p, e, e0, e1, wh_step lt lb w⟩
        | some z =>
          obtain ⟨ts, r'⟩ := z
          rw [q5] at w0
          obtain ⟨h2, l', q', d9, d12, d13, d14, w⟩ := w0
          refine ⟨h2, l', q', d9, d12, d13, d14, wh_step lt lb ?_⟩
          rw [List.append_assoc] at w
          exact w
theorem tab_loop (c0 c3 c4 c5 c10 c11 c12 c13 c14 : Slot) (gl : List MObj) (b : Int) : ∀ (ts : List Tr) (left q pl : Int) (acc : List D) (c6 c7 c8 c9 : Slot), acc.length + ts.length ≤ 10000 →
    ∃ c6' c7' c8' c9', forGo (tgTup [6, 7, 8, 9]) l_read_table_1 (rows1 b left q ts) ⟨[c0, .own (.lst acc), .val (.int pl), c3, c4, c5, c6, c7, c8, c9, c10, c11, c12, c13, c14], gl⟩ = .ok .nx ⟨[c0, .own (.lst (acc ++ tabD b left q pl ts)), .val (.int (pl + sumT ts)), c3, c4, c5, c6', c7', c8', c9', c10, c11, c12, c13, c14], gl⟩
  | [], left, q, pl, acc, c6, c7, c8, c9, _ => ⟨c6, c7, c8, c9, by simp [forGo, rows1, tabD, sumT]⟩
  | t :: ts, left, q, pl, acc, c6, c7, c8, c9, hl => by
    simp only [List.length_cons] at hl
    have fa := fApp_ok acc (rowD (minI b left) q (q + 1 + t.g) t.gr t.le pl t.ln) (by omega)
    unfold rowD at fa
    obtain ⟨d6, d7, d8, d9, w⟩ := tab_loop c0 c3 c4 c5 c10 c11 c12 c13 c14 gl b ts (left - b) (q + 1 + t.g) (pl + t.ln) (acc ++ [rowD (minI b left) q (q + 1 + t.g) t.gr t.le pl t.ln]) (.val (.int (minI b left))) (.val (.int q)) (.val (.tup [.int (q + 1 + t.g), .int t.gr, .int t.le])) (.val (.int t.ln)) (by simp; omega)
    refine ⟨d6, d7, d8, d9, ?_⟩
    rw [rows1]
    refine (fc_ok (s1 := ⟨[c0, .own (.lst acc), .val (.int pl), c3, c4, c5, .val (.int (minI b left)), .val (.int q), .val (.tup [.int (q + 1 + t.g), .int t.gr, .int t.le]), .val (.int t.ln), c10, c11, c12, c13, c14], gl⟩) (by simp [as_d]) (s2 := ⟨[c0, .own (.lst (acc ++ [rowD (minI b left) q (q + 1 + t.g) t.gr t.le pl t.ln])), .val (.int (pl + t.ln)), c3, c4, c5, .val (.int (minI b left)), .val (.int q), .val (.tup [.int (q + 1 + t.g), .int t.gr, .int t.le]), .val (.int t.ln), c10, c11, c12, c13, c14], gl⟩) ?_).trans ?_
    · unfold rowD
      simp [l_read_table_1, fa, as_d, asInt]
    · rw [w, List.append_assoc, tabD, sumT, show pl + t.ln + sumT ts = pl + (t.ln + sumT ts) by omega]
      rfl
def rdT (d : List Int) : Option (Int × Int × List Tr × List Int) := match rdsM 2 d with
  | some ([m, b], r) => if b = 0 then none else match rtR b r.length m r with
    | some (ts, r1) => if sumT ts = r1.length then some (m, b, ts, r1) else none
    | none => none
  | _ => none
theorem sumT_nn {d : List Int} (b : Int) : ∀ (f : Nat) (left : Int) (r : List Int) (ts : List Tr) (r' : List Int), Byt r → rtR b f left r = some (ts, r') → ∀ t ∈ ts, 0 ≤ t.g ∧ 0 ≤ t.gr ∧ 0 ≤ t.le ∧ 0 ≤ t.ln
  | 0, left, r, ts, r', _, e => by
    unfold rtR at e
    split at e
    · cases e; exact fun _ m => (nomatch m)
    · cases e
  | f + 1, left, r, ts, r', hb, e => by
    unfold rtR at e
    split at e
    · cases e; exact fun _ m => (nomatch m)
    · cases q : rdsM 4 r with
      | none => rw [rd4_none q] at e; cases e
      | some z =>
        obtain ⟨ns, r1⟩ := z
        obtain ⟨g, gr, le, ln, rfl, e4⟩ := rd4_of q
        simp only [e4] at e
        obtain ⟨i1, i2⟩ := rdsM_inv _ _ _ _ hb q
        cases q2 : rtR b f (left - b) r1 with
        | none => simp only [q2] at e; cases e
        | some z =>
          obtain ⟨ts', r2⟩ := z
          simp only [q2] at e
          cases e
          have ih := sumT_nn (d := d) b f _ _ _ _ (byt_right (a := flat [g, gr, le, ln]) (by rw [← i1]; exact hb)) q2
          intro t m
          rcases List.mem_cons.mp m with rfl | m
          · exact ⟨i2 _ (by simp), i2 _ (by simp), i2 _ (by simp), i2 _ (by simp)⟩
          · exact ih t m
theorem sumT_pos : ∀ {ts : List Tr}, (∀ t ∈ ts, 0 ≤ t.ln) → 0 ≤ sumT ts
  | [], _ => by simp [sumT]
  | t :: ts, h => by
    have := h t List.mem_cons_self
    have := sumT_pos (ts := ts) fun x m => h x (List.mem_cons_of_mem _ m)
    rw [sumT]
    omega
theorem tab_m {d : List Int} (gl : List MObj) (hd : d.length ≤ 5000) (hB : Byt d) : match rdT d with
    | none => XB d (f_read_table [.tup (IL d)] gl) gl
    | some (m, b, ts, r1) => r1 <:+ d ∧ 0 < b ∧ f_read_table [.tup (IL d)] gl = .ok (.tup [.int m, .lst (tabD b m (-1) (pos d r1) ts)]) gl := by
  have sp := rnums_m gl hd 2 (by omega) d (List.suffix_refl d)
  have p0 : pos d d = 0 := by unfold pos; omega
  rw [p0] at sp
  have ng : ∀ s, fNeg s (.d (.int 1)) = .ok (.d (.int (-1))) s := fun s => rfl
  unfold rdT
  cases q2 : rdsM 2 d with
  | none =>
    have q2' : rdsM (2 : Int).toNat d = none := q2
    rw [q2'] at sp
    obtain ⟨e, e0, e1, he⟩ := sp
    exact ⟨e, e0, e1, by simp [f_read_table, mDef, List.replicate, b_read_table, he]⟩
  | some z =>
    obtain ⟨ns, r⟩ := z
    have q2' : rdsM (2 : Int).toNat d = some (ns, r) := q2
    rw [q2'] at sp
    obtain ⟨h1, he⟩ := sp
    obtain ⟨l1, l2⟩ := rdsM_len _ _ _ _ q2
    obtain ⟨i1, i2⟩ := rdsM_inv _ _ _ _ hB q2
    obtain ⟨m, b, rfl⟩ : ∃ m b, ns = [m, b] := by
      match ns, l1 with
      | [m, b], _ => exact ⟨m, b, rfl⟩
    have hb0 : 0 ≤ b := i2 b (by simp)
    have hBr : Byt r := byt_right (a := flat [m, b]) (by rw [← i1]; exact hB)
    simp only
    by_cases hb : b = 0
    · rw [if_pos hb]
      subst hb
      exact ⟨0, by omega, by omega, by simp [f_read_table, mDef, List.replicate, b_read_table, he, as_d]⟩
    · rw [if_neg hb]
      have lo := rt_m gl hd b .none .none .none .none (.val (.int m)) r.length r [] m (-1) .none .none .none .none (Nat.le_refl _) h1 (by simp; omega)
      cases q3 : rtR b r.length m r with
      | none =>
        rw [q3] at lo
        obtain ⟨p, e, e0, e1, w⟩ := lo
        have w := wh_done w (by simp)
        exact ⟨p, e0, e1, by simp [f_read_table, mDef, List.replicate, b_read_table, he, as_d, hb, as_new, w]⟩
      | some z =>
        obtain ⟨ts, r1⟩ := z
        rw [q3] at lo
        obtain ⟨h2, l', q', d9, d12, d13, d14, w⟩ := lo
        have w := wh_done w (by simp)
        simp only [List.nil_append] at w
        have tl := rtR_len _ _ _ _ _ _ q3
        have tn := sumT_nn (d := d) b _ _ _ _ _ hBr q3
        have s0 := sumT_pos fun t m => (tn t m).2.2.2
        obtain ⟨d6, d7, d8, d9', w2⟩ := tab_loop (.val (.tup (IL d))) (.val (.lst (rows1 b m (-1) ts))) (.val (.int l')) (.val (.int q')) (.val (.int m)) (.val (.int b)) d12 d13 d14 gl b ts m (-1) (pos d r1) [] .none .none .none d9 (by simp; omega)
        simp only [List.nil_append] at w2
        have p1 := pos_lo h2
        have e0 : ∀ s, opEq false s (.d (.int b)) (.d (.int 0)) = .ok (.d (.bl false)) s := fun s => by rw [q_eqI, beq_false_of_ne hb]; rfl
        have hpos : pos d r1 + sumT ts = d.length ↔ sumT ts = r1.length := by unfold pos; omega
        simp only
        by_cases hs : sumT ts = r1.length
        · rw [if_pos hs]
          have hs' := hpos.mpr hs
          refine ⟨h2, by omega, ?_⟩
          have ei : ∀ s, opEq true s (.d (.int (pos d r1 + sumT ts))) (.d (.int d.length)) = .ok (.d (.bl false)) s := fun s => by rw [q_eqI, hs']; simp
          have sq : ∀ s : S, iSeq (mVar 3) ⟨[.val (.tup (IL d)), .own (.lst []), .val (.int (pos d r1)), .own (.lst (rows1 b m (-1) ts)), .val (.int l'), .val (.int q'), .none, .none, .none, d9, .val (.int m), .val (.int b), d12, d13, d14], gl⟩ = .ok (rows1 b m (-1) ts) ⟨[.val (.tup (IL d)), .own (.lst []), .val (.int (pos d r1)), .val (.lst (rows1 b m (-1) ts)), .val (.int l'), .val (.int q'), .none, .none, .none, d9, .val (.int m), .val (.int b), d12, d13, d14], gl⟩ := fun s => by
            simp [iSeq, leak, frzO]
          have sq := sq ⟨[], gl⟩
          generalize rows1 b m (-1) ts = R at w w2 sq
          generalize tabD b m (-1) (pos d r1) ts = TT at w2 ⊢
          simp [-q_eqI, f_read_table, mDef, List.replicate, b_read_table, he, as_d, e0, as_new, w, sq, w2, ei]
        · rw [if_neg hs]
          have hs' : ¬ (pos d r1 + sumT ts = d.length) := fun z => hs (hpos.mp z)
          have ei : ∀ s, opEq true s (.d (.int (pos d r1 + sumT ts))) (.d (.int d.length)) = .ok (.d (.bl true)) s := fun s => by rw [q_eqI, beq_false_of_ne hs']; simp
          have sq : ∀ s : S, iSeq (mVar 3) ⟨[.val (.tup (IL d)), .own (.lst []), .val (.int (pos d r1)), .own (.lst (rows1 b m (-1) ts)), .val (.int l'), .val (.int q'), .none, .none, .none, d9, .val (.int m), .val (.int b), d12, d13, d14], gl⟩ = .ok (rows1 b m (-1) ts) ⟨[.val (.tup (IL d)), .own (.lst []), .val (.int (pos d r1)), .val (.lst (rows1 b m (-1) ts)), .val (.int l'), .val (.int q'), .none, .none, .none, d9, .val (.int m), .val (.int b), d12, d13, d14], gl⟩ := fun s => by
            simp [iSeq, leak, frzO]
          have sq := sq ⟨[], gl⟩
          have mn : 0 ≤ minI (pos d r1 + sumT ts) d.length ∧ minI (pos d r1 + sumT ts) d.length ≤ d.length := by unfold minI; split <;> omega
          have mb : (minI (pos d r1 + sumT ts) d.length).natAbs ≤ 1000000 := by omega
          refine ⟨_, mn.1, mn.2, ?_⟩
          generalize rows1 b m (-1) ts = R at w w2 sq
          generalize tabD b m (-1) (pos d r1) ts = TT at w2
          simp [-q_eqI, f_read_table, mDef, List.replicate, b_read_table, he, as_d, e0, as_new, w, sq, w2, ei, mb]
end K21
/-! # k21: read_postings -/
namespace K21
open PySem PySem.Spec PyProof.Rows L2 MI
def blsM (b : Int) : Int → Int → List Tr → List Int → Option (List (List Pg))
  | _, _, [], _ => some []
  | left, q, t :: ts, r => match rbM (minI b left) q (q + 1 + t.g) t.gr t.le (r.take t.ln.toNat) with
    | none => none
    | some xs => match blsM b (left - b) (q + 1 + t.g) ts (r.drop t.ln.toNat) with
      | none => none
      | some ps => some (xs :: ps)
/-- so many are left at each row, none behind the last -/
def LftT (b : Int) : Int → List Tr → Prop
  | left, [] => left ≤ 0
  | left, _ :: ts => 0 < left ∧ LftT b (left - b) ts
theorem rtR_lft (b : Int) : ∀ (f : Nat) (left : Int) (r : List Int) (ts : List Tr) (r' : List Int), rtR b f left r = some (ts, r') → LftT b left ts
  | 0, left, r, ts, r', e => by
    unfold rtR at e
    split at e
    · cases e; assumption
    · cases e
  | f + 1, left, r, ts, r', e => by
    unfold rtR at e
    split at e
    · cases e; assumption
    · rename_i hz
      cases q : rd4 r with
      | none => simp only [q] at e; cases e
      | some z =>
        obtain ⟨t, r1⟩ := z
        simp only [q] at e
        cases q2 : rtR b f (left - b) r1 with
        | none => simp only [q2] at e; cases e
        | some z =>
          obtain ⟨ts', r2⟩ := z
          simp only [q2] at e
          cases e
          exact ⟨by omega, rtR_lft b f _ _ _ _ q2⟩
theorem rbM_len {size q t0 t1 t2 : Int} {r : List Int} {xs : List Pg} (e : rbM size q t0 t1 t2 r = some xs) : xs.length ≤ r.length := by
  unfold rbM at e
  cases q1 : rdsM size.toNat r with
  | none => rw [q1] at e; cases e
  | some z =>
    obtain ⟨gs, r1⟩ := z
    simp only [q1] at e
    obtain ⟨l1, l2⟩ := rdsM_len _ _ _ _ q1
    cases q2 : rpM (numsP gs q) r1 with
    | none => simp only [q2] at e; cases e
    | some z =>
      obtain ⟨ys, r2⟩ := z
      simp only [q2] at e
      obtain ⟨m1, m2, m3, m4⟩ := rpM_len _ _ _ _ q2
      rw [numsP_len] at m1
      split at e
      · cases e; omega
      · cases e
theorem in_go (c0 c1 : Slot) (gl : List MObj) : ∀ (xs : List Pg) (acc : List D), acc.length + xs.length ≤ 100000 → compGoX [2] (tgName 2) mYes (mLeak (mVar 2)) (xs.map pgD) acc ⟨[c0, c1, .none], gl⟩ = .ok (acc ++ xs.map pgD) ⟨[c0, c1, .none], gl⟩
  | [], acc, _ => by simp [compGoX]
  | x :: xs, acc, hl => by
    simp only [List.length_cons] at hl
    have hz : acc.length < sizeLine := by rw [sizeLine_eq]; omega
    have ih := in_go c0 c1 gl xs (acc ++ [pgD x]) (by simp; omega)
    rw [List.map_cons]
    unfold compGoX
    rw [ap_tgName, as_d (by simp)]
    simp only [List.set_cons_succ, List.set_cons_zero, ap_Yes, Res.bind_ok, if_true]
    have e1 : mLeak (mVar 2) ⟨[c0, c1, .val (pgD x)], gl⟩ = .ok (pgD x) ⟨[c0, c1, .val (pgD x)], gl⟩ := by simp
    rw [e1]
    simp only [Res.bind_ok, hz, if_true]
    show compGoX _ _ _ _ _ _ ⟨[c0, c1, .none], gl⟩ = _
    rw [ih]
    simp
def psM (d : List Int) : Option (Int × Int × List Tr × List Int × List (List Pg)) := match rdT d with
  | none => none
  | some (m, b, ts, r1) => match blsM b m (-1) ts r1 with
    | none => none
    | some ps => some (m, b, ts, r1, ps)
theorem rdT_inv {d : List Int} (hB : Byt d) {m b : Int} {ts : List Tr} {r1 : List Int} (h : rdT d = some (m, b, ts, r1)) : ∃ r, d = num m ++ (num b ++ r) ∧ 0 ≤ m ∧ 0 < b ∧ Byt r ∧ rtR b r.length m r = some (ts, r1) ∧ sumT ts = r1.length ∧ LftT b m ts ∧ (∀ t ∈ ts, 0 ≤ t.g ∧ 0 ≤ t.gr ∧ 0 ≤ t.le ∧ 0 ≤ t.ln) := by
  unfold rdT at h
  cases q2 : rdsM 2 d with
  | none => rw [q2] at h; cases h
  | some z =>
    obtain ⟨ns, r⟩ := z
    obtain ⟨l1, l2⟩ := rdsM_len _ _ _ _ q2
    obtain ⟨i1, i2⟩ := rdsM_inv _ _ _ _ hB q2
    obtain ⟨m', b', rfl⟩ : ∃ m b, ns = [m, b] := by
      match ns, l1 with
      | [m, b], _ => exact ⟨m, b, rfl⟩
    rw [q2] at h
    simp only at h
    have hBr : Byt r := byt_right (a := flat [m', b']) (by rw [← i1]; exact hB)
    split at h
    · cases h
    · rename_i hb
      cases q3 : rtR b' r.length m' r with
      | none => rw [q3] at h; cases h
      | some z =>
        obtain ⟨ts', r2⟩ := z
        rw [q3] at h
        simp only at h
        split at h
        · rename_i hs
          cases h
          have hb0 : 0 ≤ b := i2 b (by simp)
          refine ⟨r, by rw [i1, flat2]; simp, i2 m (by simp), by omega, hBr, q3, hs, rtR_lft _ _ _ _ _ _ q3, sumT_nn (d := d) b _ _ _ _ _ hBr q3⟩
        · cases h
end K21
/-! # k21: the readers' functions on good bytes, and sound on any -/
namespace K21
open PySem PySem.Spec PyProof.Rows L2 MI
def trs : Int → List (List Pg) → List Int → List Tr
  | _, [], _ => []
  | _, _ :: _, [] => []
  | q, p :: ps, m :: ms => ⟨lastN p - q - 1, maxL (cnts p), m, ((blk q p).length : Nat)⟩ :: trs (lastN p) ps ms
/-- parts that are good, with the least told of each -/
def GPs : Int → List (List Pg) → List Int → Prop
  | _, [], [] => True
  | q, p :: ps, m :: ms => p ≠ [] ∧ (∀ x ∈ p, Gp x) ∧ AscI q (p.map (·.n)) ∧ q < lastN p ∧ minL (cnts p) ≤ m ∧ GPs (lastN p) ps ms
  | _, _, _ => False
theorem cnts_nn (p : List Pg) : ∀ c ∈ cnts p, 0 ≤ c := fun c m => by
  obtain ⟨x, _, e⟩ := List.mem_map.mp m
  omega
theorem maxc_nn {p : List Pg} (h : p ≠ []) : 0 ≤ maxL (cnts p) := cnts_nn p _ (maxL_mem (cnts_ne h))
theorem minc_nn {p : List Pg} (h : p ≠ []) : 0 ≤ minL (cnts p) := cnts_nn p _ (minL_mem (cnts_ne h))
theorem rd4_good (g gr le ln : Int) (t : List Int) (h : 0 ≤ g ∧ 0 ≤ gr ∧ 0 ≤ le ∧ 0 ≤ ln) : rd4 (num g ++ num gr ++ num le ++ num ln ++ t) = some (⟨g, gr, le, ln⟩, t) := by
  have := rdsM_good [g, gr, le, ln] t (fun x m => by
    simp only [List.mem_cons, List.not_mem_nil, or_false] at m
    rcases m with rfl | rfl | rfl | rfl <;> omega)
  rw [flat4] at this
  unfold rd4
  show (match rdsM 4 _ with | some ([g, gr, le, ln], r1) => _ | _ => none) = _
  rw [show rdsM 4 (num g ++ num gr ++ num le ++ num ln ++ t) = some ([g, gr, le, ln], t) from this]
theorem rtR_good (b : Nat) (hb : 0 < b) (t : List Int) : ∀ (rem : List Pg) (q : Int) (ms : List Int) (f : Nat) (left : Int), GPs q (parts b rem) ms → (rem = [] → left ≤ 0) → (rem ≠ [] → left = rem.length) → (hsP q (parts b rem) ms).length ≤ f → rtR b f left (hsP q (parts b rem) ms ++ t) = some (trs q (parts b rem) ms, t) := by
  refine parts_ind b hb ?_ fun rem hne ih => ?_
  · intro q ms f left hg h0 _ _
    rw [parts_nil]
    have h0 := h0 rfl
    cases f with
    | zero => unfold rtR; rw [if_pos h0]; rfl
    | succ f => unfold rtR; rw [if_pos h0]; rfl
  · intro q ms f left hg _ h1 hf
    have h1 := h1 hne
    have hp := List.length_pos_iff.mpr hne
    rw [parts_cons hne hb] at hg hf ⊢
    cases ms with
    | nil => exact hg.elim
    | cons m ms =>
      obtain ⟨g1, g2, g3, g4, g5, g6⟩ := hg
      have e1 : hsP q (rem.take b :: parts b (rem.drop b)) (m :: ms) = num (lastN (rem.take b) - q - 1) ++ num (maxL (cnts (rem.take b))) ++ num m ++ num ((blk q (rem.take b)).length : Nat) ++ hsP (lastN (rem.take b)) (parts b (rem.drop b)) ms := rfl
      rw [e1] at hf ⊢
      simp only [List.length_append] at hf
      have n1 := num_pos (lastN (rem.take b) - q - 1)
      cases f with
      | zero => omega
      | succ f =>
        unfold rtR
        rw [if_neg (by omega), List.append_assoc, rd4_good _ _ _ _ _ ⟨by omega, maxc_nn g1, Int.le_trans (minc_nn g1) g5, by omega⟩]
        simp only
        rw [ih (lastN (rem.take b)) ms f (left - b) g6 (fun z => by
            have := congrArg List.length z
            rw [List.length_drop, List.length_nil] at this
            omega) (fun z => by
            have := List.length_pos_iff.mpr z
            rw [List.length_drop] at this ⊢
            omega) (by omega)]
        rfl
theorem sumT_trs : ∀ (q : Int) (ps : List (List Pg)) (ms : List Int), GPs q ps ms → sumT (trs q ps ms) = ((bdP q ps).length : Nat)
  | _, [], _, _ => rfl
  | _, _ :: _, [], h => h.elim
  | q, p :: ps, m :: ms, h => by
    obtain ⟨_, _, _, _, _, h6⟩ := h
    show ((blk q p).length : Int) + sumT (trs (lastN p) ps ms) = ((blk q p ++ bdP (lastN p) ps).length : Nat)
    rw [sumT_trs _ _ _ h6, List.length_append]
    omega
theorem rdT_good (xs : List Pg) (b : Nat) (hb : 0 < b) (ms : List Int) (h : GPs (-1) (parts b xs) ms) : rdT (datP xs b ms) = some (((xs.length : Nat) : Int), (b : Int), trs (-1) (parts b xs) ms, bdP (-1) (parts b xs)) := by
  have r2 := rdsM_good [(xs.length : Int), (b : Int)] (hsP (-1) (parts b xs) ms ++ bdP (-1) (parts b xs)) (fun x m => by
    simp only [List.mem_cons, List.not_mem_nil, or_false] at m
    rcases m with rfl | rfl <;> omega)
  rw [flat2] at r2
  have r2 : rdsM 2 (datP xs b ms) = _ := r2
  have rt := rtR_good b hb (bdP (-1) (parts b xs)) xs (-1) ms (hsP (-1) (parts b xs) ms ++ bdP (-1) (parts b xs)).length xs.length h (fun z => by rw [z]; simp) (fun _ => rfl) (by rw [List.length_append]; omega)
  unfold rdT
  rw [r2]
  simp only
  rw [if_neg (by omega), rt]
  simp only
  rw [if_pos (sumT_trs _ _ _ h)]
theorem blsM_good (b : Nat) (hb : 0 < b) : ∀ (rem : List Pg) (q : Int) (ms : List Int) (left : Int), GPs q (parts b rem) ms → (rem ≠ [] → left = rem.length) → blsM b left q (trs q (parts b rem) ms) (bdP q (parts b rem)) = some (parts b rem) := by
  refine parts_ind b hb ?_ fun rem hne ih => ?_
  · intro q ms left _ _
    rw [parts_nil]
    rfl
  · intro q ms left hg h1
    have h1 := h1 hne
    have hp := List.length_pos_iff.mpr hne
    rw [parts_cons hne hb] at hg ⊢
    cases ms with
    | nil => exact hg.elim
    | cons m ms =>
      obtain ⟨g1, g2, g3, g4, g5, g6⟩ := hg
      have e1 : trs q (rem.take b :: parts b (rem.drop b)) (m :: ms) = ⟨lastN (rem.take b) - q - 1, maxL (cnts (rem.take b)), m, ((blk q (rem.take b)).length : Nat)⟩ :: trs (lastN (rem.take b)) (parts b (rem.drop b)) ms := rfl
      have e2 : bdP q (rem.take b :: parts b (rem.drop b)) = blk q (rem.take b) ++ bdP (lastN (rem.take b)) (parts b (rem.drop b)) := rfl
      rw [e1, e2]
      unfold blsM
      simp only
      rw [toNat_len, List.take_left' rfl, List.drop_left' rfl, show q + 1 + (lastN (rem.take b) - q - 1) = lastN (rem.take b) by omega,
        show minI (b : Int) left = ((rem.take b).length : Nat) by unfold minI; rw [List.length_take]; split <;> omega, rbM_good _ q m g2 g3 g5]
      simp only
      rw [ih (lastN (rem.take b)) ms (left - b) g6 fun z => by
        have := List.length_pos_iff.mpr z
        rw [List.length_drop] at this ⊢
        omega]
theorem psM_good (xs : List Pg) (b : Nat) (hb : 0 < b) (ms : List Int) (h : GPs (-1) (parts b xs) ms) : psM (datP xs b ms) = some (((xs.length : Nat) : Int), (b : Int), trs (-1) (parts b xs) ms, bdP (-1) (parts b xs), parts b xs) := by
  unfold psM
  rw [rdT_good xs b hb ms h]
  simp only
  rw [blsM_good b hb xs (-1) ms xs.length h fun _ => rfl]
/-! ### sound -/
def MtP (b : Int) : Int → Int → List Tr → List (List Pg) → Prop
  | _, _, [], [] => True
  | left, q, t :: ts, p :: ps => (p.length : Int) = minI b left ∧ (∀ x ∈ p, Gp x) ∧ AscI q (p.map (·.n)) ∧ lastN p = q + 1 + t.g ∧ maxL (cnts p) = t.gr ∧ minL (cnts p) ≤ t.le ∧ t.ln = ((blk q p).length : Nat) ∧ MtP b (left - b) (q + 1 + t.g) ts ps
  | _, _, _, _ => False
theorem blsM_inv (b : Int) (hb : 0 < b) : ∀ (ts : List Tr) (left q : Int) (r : List Int) (ps : List (List Pg)), Byt r → LftT b left ts → (∀ t ∈ ts, 0 ≤ t.ln) → sumT ts = r.length → blsM b left q ts r = some ps → MtP b left q ts ps ∧ r = bdP q ps
  | [], left, q, r, ps, _, _, _, hs, e => by
    cases e
    refine ⟨trivial, ?_⟩
    rw [sumT] at hs
    exact List.length_eq_zero_iff.mp (by omega)
  | t :: ts, left, q, r, ps, hB, hlf, hnn, hs, e => by
    obtain ⟨hl0, hlf⟩ := hlf
    rw [sumT] at hs
    have t0 := hnn t List.mem_cons_self
    have s0 := sumT_pos (ts := ts) fun x m => hnn x (List.mem_cons_of_mem _ m)
    have ms : 0 < minI b left := by unfold minI; split <;> omega
    unfold blsM at e
    cases q1 : rbM (minI b left) q (q + 1 + t.g) t.gr t.le (r.take t.ln.toNat) with
    | none => rw [q1] at e; cases e
    | some xs =>
      simp only [q1] at e
      obtain ⟨r1, r2, r3, r4, r5, r6, r7⟩ := rbM_inv (fun x m => hB x (List.mem_of_mem_take m)) (by omega) q1
      cases q2 : blsM b (left - b) (q + 1 + t.g) ts (r.drop t.ln.toNat) with
      | none => simp only [q2] at e; cases e
      | some ps' =>
        simp only [q2] at e
        cases e
        obtain ⟨i1, i2⟩ := blsM_inv b hb ts (left - b) (q + 1 + t.g) (r.drop t.ln.toNat) ps' (fun x m => hB x (List.mem_of_mem_drop m)) hlf (fun x m => hnn x (List.mem_cons_of_mem _ m)) (by rw [List.length_drop]; omega) q2
        refine ⟨⟨r1, r2, r3, r5, r6, r7, ?_, i1⟩, ?_⟩
        · rw [← r4, List.length_take]
          omega
        · show r = blk q xs ++ bdP (lastN xs) ps'
          rw [r5, ← i2, ← r4, List.take_append_drop]
def hsT : List Tr → List Int
  | [] => []
  | t :: ts => num t.g ++ num t.gr ++ num t.le ++ num t.ln ++ hsT ts
theorem rtR_inv (b : Int) : ∀ (f : Nat) (left : Int) (r : List Int) (ts : List Tr) (r' : List Int), Byt r → rtR b f left r = some (ts, r') → r = hsT ts ++ r'
  | 0, left, r, ts, r', _, e => by
    unfold rtR at e
    split at e
    · cases e; rfl
    · cases e
  | f + 1, left, r, ts, r', hb, e => by
    unfold rtR at e
    split at e
    · cases e; rfl
    · cases q : rdsM 4 r with
      | none => rw [rd4_none q] at e; cases e
      | some z =>
        obtain ⟨ns, r1⟩ := z
        obtain ⟨g, gr, le, ln, rfl, e4⟩ := rd4_of q
        simp only [e4] at e
        obtain ⟨i1, i2⟩ := rdsM_inv _ _ _ _ hb q
        cases q2 : rtR b f (left - b) r1 with
        | none => simp only [q2] at e; cases e
        | some z =>
          obtain ⟨ts', r2⟩ := z
          simp only [q2] at e
          cases e
          have ih := rtR_inv b f _ _ _ _ (byt_right (a := flat [g, gr, le, ln]) (by rw [← i1]; exact hb)) q2
          rw [i1, flat4, ih]
          show _ = (num g ++ num gr ++ num le ++ num ln ++ hsT ts') ++ r'
          simp only [List.append_assoc]
theorem hsT_hsP (b : Int) : ∀ (left q : Int) (ts : List Tr) (ps : List (List Pg)), MtP b left q ts ps → hsT ts = hsP q ps (ts.map (·.le))
  | _, _, [], [], _ => rfl
  | left, q, t :: ts, p :: ps, h => by
    obtain ⟨h1, h2, h3, h4, h5, h6, h7, h8⟩ := h
    show num t.g ++ num t.gr ++ num t.le ++ num t.ln ++ hsT ts = num (lastN p - q - 1) ++ num (maxL (cnts p)) ++ num t.le ++ num ((blk q p).length : Nat) ++ hsP (lastN p) ps (ts.map (·.le))
    rw [hsT_hsP b _ _ _ _ h8, h4, h5, ← h7, show q + 1 + t.g - q - 1 = t.g by omega]
  | _, _, [], _ :: _, h => h.elim
  | _, _, _ :: _, [], h => h.elim
theorem mt_parts {b : Nat} (hb : 0 < b) : ∀ {ts : List Tr} {ps : List (List Pg)} {left q : Int}, LftT b left ts → MtP b left q ts ps → 0 ≤ left → left = (ps.flatten.length : Nat) ∧ parts b ps.flatten = ps
  | [], [], left, q, h, _, h0 => by
    have h' : left ≤ 0 := h
    refine ⟨by simp; omega, by simp [parts_nil]⟩
  | t :: ts, p :: ps, left, q, h, hm, h0 => by
    obtain ⟨h1, h3⟩ := h
    obtain ⟨m1, _, _, _, _, _, _, m8⟩ := hm
    have hne : p ≠ [] := fun z => by
      rw [z] at m1
      have : 0 < minI (b : Int) left := by unfold minI; split <;> omega
      simp at m1
      omega
    by_cases hle : left ≤ b
    · have hx : ts = [] := by
        cases ts with
        | nil => rfl
        | cons y ys => have := h3.1; omega
      subst hx
      cases ps with
      | cons => exact m8.elim
      | nil =>
        have e : minI (b : Int) left = left := by unfold minI; split <;> omega
        have rl : p.length ≤ b := by omega
        simp only [List.flatten_cons, List.flatten_nil, List.append_nil]
        refine ⟨by omega, ?_⟩
        rw [parts_cons hne hb, List.take_of_length_le rl, List.drop_of_length_le rl, parts_nil]
    · have e : minI (b : Int) left = b := by unfold minI; split <;> omega
      obtain ⟨i1, i2⟩ := mt_parts hb h3 m8 (by omega)
      rw [List.flatten_cons]
      have rl : p.length = b := by omega
      refine ⟨by rw [List.length_append]; omega, ?_⟩
      rw [parts_cons (by simp [hne]) hb, List.take_left' rl, List.drop_left' rl, i2]
  | [], _ :: _, _, _, _, hm, _ => hm.elim
  | _ :: _, [], _, _, _, hm, _ => hm.elim
theorem ascI_join {q : Int} : ∀ {xs ys : List Pg}, AscI q (xs.map (·.n)) → xs ≠ [] → AscI (lastN xs) (ys.map (·.n)) → AscI q ((xs ++ ys).map (·.n)) := by
  intro xs
  induction xs generalizing q with
  | nil => intro ys _ h _; exact absurd rfl h
  | cons x xs ih =>
    intro ys h _ hy
    cases xs with
    | nil => exact ⟨h.1, hy⟩
    | cons y r => exact ⟨h.1, ih h.2 (by simp) hy⟩
theorem mt_gps {b : Int} (hb : 0 < b) : ∀ {ts : List Tr} {ps : List (List Pg)} {left q : Int}, LftT b left ts → MtP b left q ts ps → (∀ t ∈ ts, 0 ≤ t.g) → GPs q ps (ts.map (·.le)) ∧ trs q ps (ts.map (·.le)) = ts
  | [], [], left, q, _, _, _ => ⟨trivial, rfl⟩
  | t :: ts, p :: ps, left, q, h, hm, hnn => by
    obtain ⟨h1, h3⟩ := h
    obtain ⟨m1, m2, m3, m4, m5, m6, m7, m8⟩ := hm
    have hne : p ≠ [] := fun z => by
      rw [z] at m1
      have : 0 < minI (b : Int) left := by unfold minI; split <;> omega
      simp at m1
      omega
    have g0 := hnn t List.mem_cons_self
    rw [← m4] at m8
    obtain ⟨i1, i2⟩ := mt_gps hb h3 m8 fun x m => hnn x (List.mem_cons_of_mem _ m)
    refine ⟨⟨hne, m2, m3, by omega, m6, i1⟩, ?_⟩
    show (⟨lastN p - q - 1, maxL (cnts p), t.le, ((blk q p).length : Nat)⟩ : Tr) :: trs (lastN p) ps (ts.map (·.le)) = t :: ts
    rw [i2, m4, m5, ← m7, show q + 1 + t.g - q - 1 = t.g by omega]
  | [], _ :: _, _, _, _, hm, _ => hm.elim
  | _ :: _, [], _, _, _, hm, _ => hm.elim
theorem gps_asc : ∀ {ps : List (List Pg)} {q : Int} {ms : List Int}, GPs q ps ms → AscI q (ps.flatten.map (·.n)) ∧ (∀ x ∈ ps.flatten, Gp x) ∧ ms.length = ps.length
  | [], _, [], _ => ⟨trivial, fun _ m => (nomatch m), rfl⟩
  | [], _, _ :: _, h => h.elim
  | _ :: _, _, [], h => h.elim
  | p :: ps, q, m :: ms, h => by
    obtain ⟨h1, h2, h3, h4, h5, h6⟩ := h
    obtain ⟨i1, i2, i3⟩ := gps_asc h6
    rw [List.flatten_cons]
    refine ⟨ascI_join h3 h1 i1, fun x mm => ?_, by simp [i3]⟩
    rcases List.mem_append.mp mm with mm | mm
    · exact h2 x mm
    · exact i2 x mm
/-- what any bytes that are read are -/
theorem psM_inv {d : List Int} (hB : Byt d) {m b : Int} {ts : List Tr} {r1 : List Int} {ps : List (List Pg)} (h : psM d = some (m, b, ts, r1, ps)) : ∃ (c : Nat) (ms : List Int), 0 < c ∧ b = c ∧ parts c ps.flatten = ps ∧ m = (ps.flatten.length : Nat) ∧ d = datP ps.flatten c ms ∧ GPs (-1) ps ms ∧ NN ms ∧ ts = trs (-1) ps ms ∧ r1 = bdP (-1) ps := by
  unfold psM at h
  cases q : rdT d with
  | none => rw [q] at h; cases h
  | some z =>
    obtain ⟨m', b', ts', r1'⟩ := z
    simp only [q] at h
    obtain ⟨r, hd, hm0, hb0, hBr, q3, hs, hlf, hnn⟩ := rdT_inv hB q
    cases q4 : blsM b' m' (-1) ts' r1' with
    | none => simp only [q4] at h; cases h
    | some ps' =>
      simp only [q4] at h
      cases h
      have er := rtR_inv _ _ _ _ _ _ hBr q3
      obtain ⟨i1, i2⟩ := blsM_inv b hb0 ts m (-1) r1 ps (byt_right (a := hsT ts) (by rw [← er]; exact hBr)) hlf (fun t mm => (hnn t mm).2.2.2) hs q4
      obtain ⟨c, rfl⟩ : ∃ c : Nat, b = c := ⟨b.toNat, by omega⟩
      have hc : 0 < c := by omega
      obtain ⟨j1, j2⟩ := mt_parts hc hlf i1 hm0
      obtain ⟨k1, k2⟩ := mt_gps hb0 hlf i1 fun t mm => (hnn t mm).1
      refine ⟨c, ts.map (·.le), hc, rfl, j2, j1, ?_, k1, fun x mm => ?_, k2.symm, i2⟩
      · unfold datP
        rw [j2, ← hsT_hsP _ _ _ _ _ i1, ← i2, ← j1, hd, er]
        simp
      · obtain ⟨t, mt, e⟩ := List.mem_map.mp mm
        have := (hnn t mt).2.2.1
        omega
end K21
/-! # k21: told, first numbers, what are postings -/
namespace K21
open PySem PySem.Spec PyProof.Rows L2 MI
/-! ### what are postings -/
theorem ascI_pw : ∀ {q : Int} {l : List Int}, AscI q l → (∀ x ∈ l, q < x) ∧ l.Pairwise (· < ·)
  | _, [], _ => ⟨fun _ m => (nomatch m), .nil⟩
  | q, n :: l, h => by
    obtain ⟨h1, h2⟩ := h
    obtain ⟨i1, i2⟩ := ascI_pw h2
    refine ⟨fun x m => ?_, List.pairwise_cons.mpr ⟨i1, i2⟩⟩
    rcases List.mem_cons.mp m with rfl | m
    · exact h1
    · have := i1 x m
      omega
theorem sort_selfI {q : Int} {l : List Int} (h : AscI q l) : sortI (uni l) = l := by
  obtain ⟨_, hp⟩ := ascI_pw h
  have hn : l.Nodup := hp.imp fun h => by omega
  exact (sortI_uniq (uni_perm hn) (hp.imp fun h => by omega)).symm
theorem strsOf_int (i : Int) (l : List Int) : strsOf (IL (i :: l)) = none := rfl
theorem ss_at {q : Int} {l : List Int} (h : AscI q l) (hl : l.length ≤ 1000) {s : S} {r : RV} (hr : asD s r = some (.lst (IL l))) : fSortedSet s r = .ok (.new (.lst (IL l))) s := by
  unfold fSortedSet
  rw [hr]
  cases l with
  | nil => simp [strsOf, uni, sortS]
  | cons i l =>
    simp only [strsOf_int, intsOf_il, sort_selfI h]
    rw [if_pos hl]
theorem ss_tup {q : Int} {l : List Int} (h : AscI q l) (hl : l.length ≤ 1000) {s : S} {r : RV} (hr : asD s r = some (.tup (IL l))) : fSortedSetT s r = .ok (.new (.lst (IL l))) s := by
  unfold fSortedSetT
  rw [hr]
  cases l with
  | nil => simp [strsOf, uni, sortS]
  | cons i l =>
    simp only [strsOf_int, intsOf_il, sort_selfI h]
    rw [if_pos hl]
theorem eq_self {l : List Int} {s : S} {r : RV} (hr : asD s r = some (.lst (IL l))) : opEq false s r (.new (.lst (IL l))) = .ok (.d (.bl true)) s := by
  have e3 : eqvO 40 (.lst (IL l)) (.lst (IL l)) = some true := by
    have := eqAll_int (m := 39) l l
    rw [decide_eq_true rfl] at this
    exact this
  have e4 : asD s (.new (.lst (IL l))) = some (.lst (IL l)) := rfl
  unfold opEq
  rw [hr, e4]
  simp only [e3]
  rfl
theorem all_trues {α : Type} (l : List α) (s : S) : fAll s (.new (.lst (l.map fun _ => D.bl true))) = .ok (.d (.bl true)) s := by
  have e : (l.map fun _ => D.bl true) = (l.map fun _ => true).map D.bl := by rw [List.map_map]; rfl
  have e2 : blsOf (l.map fun _ => D.bl true) = some (l.map fun _ => true) := by rw [e, blsOf_map]
  unfold fAll
  show (match blsOf (l.map fun _ => D.bl true) with | some bs => _ | none => _) = _
  rw [e2]
  simp
end K21
/-! # k21: rows of a table that is read; any bytes, sound -/
namespace K21
open PySem PySem.Spec PyProof.Rows L2 MI
structure Rw where
  size : Int
  q : Int
  t0 : Int
  t1 : Int
  t2 : Int
  pl : Int
  ln : Int
  p : List Pg
def Rw.d (z : Rw) : D := rowD z.size z.q z.t0 z.t1 z.t2 z.pl z.ln
def prv : Int → List (List Pg) → List Int
  | _, [] => []
  | q, p :: ps => q :: prv (lastN p) ps
/-- a row, and what its block is -/
def RwOk (d : List Int) (z : Rw) : Prop := (∀ gl, f_read_block [.tup (IL d), z.d] gl = .ok (.tup (z.p.map pgD)) gl) ∧ minL (cnts z.p) ≤ z.t2 ∧ z.p ≠ [] ∧ z.t0 = lastN z.p ∧ z.t1 = maxL (cnts z.p) ∧ z.size = (z.p.length : Nat) ∧
  ∃ pre post, d = pre ++ (blk z.q z.p ++ post) ∧ z.pl = (pre.length : Nat) ∧ z.ln = ((blk z.q z.p).length : Nat)
theorem rows_ok {d : List Int} (hd : d.length ≤ 5000) (hB : Byt d) (b : Int) (hb : 0 < b) : ∀ (ts : List Tr) (left q : Int) (pre r : List Int) (ps : List (List Pg)), d = pre ++ r → LftT b left ts → (∀ t ∈ ts, 0 ≤ t.ln) → sumT ts = r.length → blsM b left q ts r = some ps →
    ∃ l : List Rw, l.map Rw.d = tabD b left q pre.length ts ∧ l.map (·.p) = ps ∧ l.map (·.t2) = ts.map (·.le) ∧ l.map (·.q) = prv q ps ∧ ∀ z ∈ l, RwOk d z
  | [], left, q, pre, r, ps, _, _, _, _, e => by
    cases e
    exact ⟨[], rfl, rfl, rfl, rfl, fun _ m => (nomatch m)⟩
  | t :: ts, left, q, pre, r, ps, hdd, hlf, hnn, hsum, e => by
    obtain ⟨hl0, hlf⟩ := hlf
    rw [sumT] at hsum
    have t0 := hnn t List.mem_cons_self
    have s0 := sumT_pos (ts := ts) fun x m => hnn x (List.mem_cons_of_mem _ m)
    have hln : ((r.take t.ln.toNat).length : Int) = t.ln := by rw [List.length_take]; omega
    have ms : 0 < minI b left := by unfold minI; split <;> omega
    have sp := fun gl => rb_m (d := d) (pre := pre) (r := r.take t.ln.toNat) (post := r.drop t.ln.toNat) gl hd hB (by rw [List.take_append_drop]; exact hdd) (minI b left) q (q + 1 + t.g) t.gr t.le ms
    rw [hln] at sp
    unfold blsM at e
    cases q1 : rbM (minI b left) q (q + 1 + t.g) t.gr t.le (r.take t.ln.toNat) with
    | none => rw [q1] at e; cases e
    | some xs =>
      simp only [q1] at e sp
      have hBr : Byt r := byt_right (a := pre) (by rw [← hdd]; exact hB)
      obtain ⟨r1, r2, r3, r4, r5, r6, r7⟩ := rbM_inv (fun x m => hBr x (List.mem_of_mem_take m)) (by omega) q1
      cases q2 : blsM b (left - b) (q + 1 + t.g) ts (r.drop t.ln.toNat) with
      | none => simp only [q2] at e; cases e
      | some ps' =>
        simp only [q2] at e
        cases e
        obtain ⟨l, i1, i2, i3, i4, i5⟩ := rows_ok hd hB b hb ts (left - b) (q + 1 + t.g) (pre ++ r.take t.ln.toNat) (r.drop t.ln.toNat) ps' (by rw [List.append_assoc, List.take_append_drop]; exact hdd) hlf (fun x m => hnn x (List.mem_cons_of_mem _ m)) (by rw [List.length_drop]; omega) q2
        have ep : ((pre ++ r.take t.ln.toNat).length : Int) = pre.length + t.ln := by rw [List.length_append]; push_cast; omega
        rw [ep] at i1
        refine ⟨⟨minI b left, q, q + 1 + t.g, t.gr, t.le, pre.length, t.ln, xs⟩ :: l, ?_, ?_, ?_, ?_, fun z m => ?_⟩
        · rw [List.map_cons, i1]
          rfl
        · rw [List.map_cons, i2]
        · rw [List.map_cons, i3]
          rfl
        · rw [List.map_cons, i4, prv, r5]
        · rcases List.mem_cons.mp m with rfl | m
          · refine ⟨sp, r7, fun z => ?_, r5.symm, r6.symm, r1.symm, pre, r.drop t.ln.toNat, ?_, rfl, ?_⟩
            · have z : xs = [] := z
              rw [z] at r1
              simp at r1
              omega
            · show d = pre ++ (blk q xs ++ r.drop t.ln.toNat)
              rw [← r4, List.take_append_drop]
              exact hdd
            · show t.ln = ((blk q xs).length : Nat)
              rw [← r4, hln]
          · exact i5 z m
theorem trs_le : ∀ {ps : List (List Pg)} {q : Int} {ms : List Int}, GPs q ps ms → (trs q ps ms).map (·.le) = ms
  | [], _, [], _ => rfl
  | [], _, _ :: _, h => h.elim
  | _ :: _, _, [], h => h.elim
  | p :: ps, q, m :: ms, h => by
    obtain ⟨_, _, _, _, _, h6⟩ := h
    show m :: (trs (lastN p) ps ms).map (·.le) = _
    rw [trs_le h6]
theorem parts_le2 {p : List Pg} : ∀ {ps : List (List Pg)}, p ∈ ps → p.length ≤ ps.flatten.length
  | [], h => nomatch h
  | x :: ps, h => by
    rw [List.flatten_cons, List.length_append]
    rcases List.mem_cons.mp h with rfl | h
    · omega
    · have := parts_le2 h
      omega
theorem any_falses {α : Type} (l : List α) (s : S) : fAny s (.new (.lst (l.map fun _ => D.bl false))) = .ok (.d (.bl false)) s := by
  have e : (l.map fun _ => D.bl false) = (l.map fun _ => false).map D.bl := by rw [List.map_map]; rfl
  have e2 : blsOf (l.map fun _ => D.bl false) = some (l.map fun _ => false) := by rw [e, blsOf_map]
  unfold fAny
  show (match blsOf (l.map fun _ => D.bl false) with | some bs => _ | none => _) = _
  rw [e2]
  simp
theorem pls_ge : ∀ xs : List Pg, (∀ x ∈ xs, x.ps.length ≤ (pls xs).length) ∧ xs.length ≤ (pls xs).length
  | [] => ⟨fun _ m => (nomatch m), Nat.le_refl _⟩
  | x :: xs => by
    obtain ⟨i1, i2⟩ := pls_ge xs
    have e : (pls (x :: xs)).length = (num x.ps.length).length + (gb x.ps (-1)).length + (pls xs).length := by
      show (num x.ps.length ++ gb x.ps (-1) ++ pls xs).length = _
      simp only [List.length_append]
    have n1 := num_pos x.ps.length
    have fl : ∀ (ns : List Int) (q : Int), ns.length ≤ (gb ns q).length := by
      intro ns
      induction ns with
      | nil => intro q; exact Nat.zero_le _
      | cons n ns ih =>
        intro q
        rw [gb_cons, List.length_append, List.length_cons]
        have := ih n
        have := num_pos (n - q - 1)
        omega
    have := fl x.ps (-1)
    refine ⟨fun y m => ?_, by rw [e, List.length_cons]; omega⟩
    rw [e]
    rcases List.mem_cons.mp m with rfl | m
    · omega
    · have := i1 y m
      omega
theorem bd_ge : ∀ (ps : List (List Pg)) (q : Int), (∀ x ∈ ps.flatten, x.ps.length ≤ (bdP q ps).length) ∧ ps.flatten.length ≤ (bdP q ps).length
  | [], _ => ⟨fun _ m => (nomatch m), Nat.le_refl _⟩
  | p :: ps, q => by
    obtain ⟨i1, i2⟩ := bd_ge ps (lastN p)
    obtain ⟨j1, j2⟩ := pls_ge p
    have e : (bdP q (p :: ps)).length = (gb (p.map (·.n)) q).length + (pls p).length + (bdP (lastN p) ps).length := by
      show (blk q p ++ bdP (lastN p) ps).length = _
      unfold blk
      simp only [List.length_append]
    rw [e, List.flatten_cons]
    refine ⟨fun x m => ?_, by rw [List.length_append]; omega⟩
    rcases List.mem_append.mp m with m | m
    · have := j1 x m
      omega
    · have := i1 x m
      omega
theorem parts_fewer (b : Nat) (hb : 0 < b) : ∀ rows : List Pg, (parts b rows).length ≤ rows.length := by
  refine parts_ind b hb (by rw [parts_nil]; exact Nat.le_refl _) fun rs h ih => ?_
  have := List.length_pos_iff.mpr h
  rw [parts_cons h hb, List.length_cons]
  rw [List.length_drop] at ih
  omega
end K21
/-! # k21: heads of bytes; bytes of another length are refused; good bytes -/
namespace K21
open PySem PySem.Spec PyProof.Rows L2 MI
theorem bx_more {gl : List MObj} (h : Bx gl) (more : List MObj) : Bx (gl ++ more) := by
  obtain ⟨cs, a, b, rest, rfl, h1, h2⟩ := h
  exact ⟨cs, a, b, rest ++ more, rfl, h1, h2⟩
theorem digs_lt_pow : ∀ (k m : Nat), (digs m).length ≤ k → m < 128 ^ k
  | 0, m, h => by
    by_cases hm : 0 < m
    · rw [digs_pos m hm] at h; simp at h
    · simp; omega
  | k + 1, m, h => by
    by_cases hm : 0 < m
    · rw [digs_pos m hm, List.length_append] at h
      have := digs_lt_pow k (m / 128) (by simp at h; omega)
      rw [Nat.pow_succ]
      omega
    · have : 0 < 128 ^ (k + 1) := Nat.pow_pos (by omega)
      omega
theorem num_len3 (b : Nat) (h : (num b).length ≤ 3) : b ≤ 3000000 := by
  unfold num at h
  rw [List.length_append] at h
  have := digs_lt_pow 2 ((b : Int).toNat / 128) (by simp at h ⊢; omega)
  rw [Int.toNat_natCast] at this
  omega
def Hd (z : List Int) : Prop := 2 ≤ big (z.take 4) ∨ z.length ≤ 4
theorem dat_eq (xs : List Pg) (b : Nat) (ms : List Int) : datP xs b ms = num xs.length ++ (num b ++ (hsP (-1) (parts b xs) ms ++ bdP (-1) (parts b xs))) := by unfold datP; simp
theorem hd_blk {z : List Int} (h : Hd z) (xs : List Pg) (b : Nat) (ms : List Int) (e : z = datP xs b ms) : b ≤ 300000000 := by
  have e2 := e.trans (dat_eq xs b ms)
  have ln := num_pos xs.length
  by_cases hl : (num xs.length).length + (num b).length ≤ 4
  · have := num_len3 b (by omega)
    omega
  · exfalso
    have zl := congrArg List.length e2
    simp only [List.length_append] at zl
    rcases h with h | h
    · have eb : num (b : Int) = digs ((b : Int).toNat / 128) ++ [128 + (b : Int) % 128] := rfl
      have lb : (num (b : Int)).length = (digs ((b : Int).toNat / 128)).length + 1 := by rw [eb, List.length_append]; rfl
      have tk : z.take 4 = (num xs.length ++ digs ((b : Int).toNat / 128)).take 4 := by
        rw [e2, eb, List.append_assoc, ← List.append_assoc (num _), List.take_append_of_le_length (by rw [List.length_append]; omega)]
      have b1 : big (num xs.length ++ digs ((b : Int).toNat / 128)) = 1 := by
        rw [big_app, big_num, big_low _ fun x m => (digs_lt _ x m).2]
      have b2 : big ((num xs.length ++ digs ((b : Int).toNat / 128)).take 4) ≤ big (num xs.length ++ digs ((b : Int).toNat / 128)) := by
        unfold big
        exact List.Sublist.countP_le (List.take_sublist _ _)
      rw [tk] at h
      omega
    · omega
theorem num_uniq {a b : Int} {x y : List Int} (ha : 0 ≤ a) (hb : 0 ≤ b) (e : num a ++ x = num b ++ y) : a = b ∧ x = y := by
  have h1 := rd_num a ha x
  rw [e, rd_num b hb y] at h1
  injection h1 with h1
  injection h1 with h1 h2
  exact ⟨h1.symm, h2.symm⟩
theorem hsP_uniq : ∀ (ps ps' : List (List Pg)) (q q' : Int) (ms ms' X X' : List Int), GPs q ps ms → GPs q' ps' ms' → ps.length = ps'.length → hsP q ps ms ++ X = hsP q' ps' ms' ++ X' → (hsP q ps ms).length = (hsP q' ps' ms').length ∧ (bdP q ps).length = (bdP q' ps').length
  | [], [], _, _, _, _, _, _, _, _, _, _ => ⟨rfl, rfl⟩
  | p :: ps, p' :: ps', q, q', m :: ms, m' :: ms', X, X', g, g', hl, e => by
    obtain ⟨g1, g2, g3, g4, g5, g6⟩ := g
    obtain ⟨k1, k2, k3, k4, k5, k6⟩ := g'
    have a1 : hsP q (p :: ps) (m :: ms) = num (lastN p - q - 1) ++ num (maxL (cnts p)) ++ num m ++ num ((blk q p).length : Nat) ++ hsP (lastN p) ps ms := rfl
    have a2 : hsP q' (p' :: ps') (m' :: ms') = num (lastN p' - q' - 1) ++ num (maxL (cnts p')) ++ num m' ++ num ((blk q' p').length : Nat) ++ hsP (lastN p') ps' ms' := rfl
    have e1 : num (lastN p - q - 1) ++ (num (maxL (cnts p)) ++ (num m ++ (num ((blk q p).length : Nat) ++ (hsP (lastN p) ps ms ++ X)))) = num (lastN p' - q' - 1) ++ (num (maxL (cnts p')) ++ (num m' ++ (num ((blk q' p').length : Nat) ++ (hsP (lastN p') ps' ms' ++ X')))) := by
      rw [a1, a2] at e
      simpa using e
    have c1 := maxc_nn g1
    have c2 := maxc_nn k1
    have c3 := minc_nn g1
    have c4 := minc_nn k1
    obtain ⟨f1, f2⟩ := num_uniq (by omega) (by omega) e1
    obtain ⟨f3, f4⟩ := num_uniq c1 c2 f2
    obtain ⟨f5, f6⟩ := num_uniq (by omega) (by omega) f4
    obtain ⟨f7, f8⟩ := num_uniq (by omega) (by omega) f6
    obtain ⟨i1, i2⟩ := hsP_uniq ps ps' _ _ ms ms' X X' g6 k6 (by simpa using hl) f8
    have b1 : bdP q (p :: ps) = blk q p ++ bdP (lastN p) ps := rfl
    have b2 : bdP q' (p' :: ps') = blk q' p' ++ bdP (lastN p') ps' := rfl
    have f7' : (blk q p).length = (blk q' p').length := by omega
    rw [a1, a2, b1, b2]
    simp only [List.length_append, f1, f3, f5, f7', i1, i2]
    exact ⟨trivial, trivial⟩
  | [], _ :: _, _, _, _, _, _, _, _, _, h, _ => by simp at h
  | _ :: _, [], _, _, _, _, _, _, _, _, h, _ => by simp at h
  | _ :: _, _ :: _, _, _, [], _, _, _, h, _, _, _ => h.elim
  | _ :: _, _ :: _, _, _, _ :: _, [], _, _, _, h, _, _ => h.elim
theorem datP_uniq {xs xs' : List Pg} {b b' : Nat} {ms ms' u v : List Int} (hb : 0 < b) (hb' : 0 < b') (g : GPs (-1) (parts b xs) ms) (g' : GPs (-1) (parts b' xs') ms') (e : datP xs b ms ++ u = datP xs' b' ms' ++ v) : (datP xs b ms).length = (datP xs' b' ms').length := by
  have e1 : num xs.length ++ (num b ++ (hsP (-1) (parts b xs) ms ++ (bdP (-1) (parts b xs) ++ u))) = num xs'.length ++ (num b' ++ (hsP (-1) (parts b' xs') ms' ++ (bdP (-1) (parts b' xs') ++ v))) := by
    rw [dat_eq, dat_eq] at e
    simpa using e
  obtain ⟨f1, f2⟩ := num_uniq (by omega) (by omega) e1
  obtain ⟨f3, f4⟩ := num_uniq (by omega) (by omega) f2
  have f3' : b = b' := by omega
  subst f3'
  have f1' : xs.length = xs'.length := by omega
  obtain ⟨g1, g2⟩ := hsP_uniq _ _ _ _ _ _ _ _ g g' (by rw [parts_len b hb, parts_len b hb, f1']) f4
  rw [datP_len, datP_len, f1', g1, g2]
/-- three bytes that end numbers stand ahead, or the bytes are few -/
def H3 (d : List Int) : Prop := (∃ x y z r, d = x :: y :: z :: r ∧ 128 ≤ x ∧ 128 ≤ y ∧ 128 ≤ z) ∨ d.length ≤ 3
theorem big_c (x : Int) (l : List Int) (h : 128 ≤ x) : big (x :: l) = big l + 1 := by unfold big; rw [List.countP_cons]; simp [h]
theorem big_ge (x : Int) (l : List Int) : big l ≤ big (x :: l) := by unfold big; rw [List.countP_cons]; omega
theorem big_take (l : List Int) (k : Nat) : 0 ≤ big (l.take k) := Nat.zero_le _
theorem hd_cut {d : List Int} (h : H3 d) (k : Nat) : Hd (d.take k) := by
  rcases h with ⟨x, y, z, r, rfl, hx, hy, hz⟩ | h
  · by_cases hk : k ≤ 4
    · exact .inr (by rw [List.length_take]; omega)
    · obtain ⟨j, rfl⟩ : ∃ j, k = j + 4 := ⟨k - 4, by omega⟩
      refine .inl ?_
      rw [List.take_take, Nat.min_eq_left (by omega)]
      show 2 ≤ big (x :: y :: z :: r.take 1)
      rw [big_c x _ hx, big_c y _ hy, big_c z _ hz]
      omega
  · exact .inr (by rw [List.length_take]; omega)
theorem hd_change {d : List Int} (h : H3 d) (k : Nat) (b : Int) (hk : k < d.length) : Hd (d.take k ++ [b] ++ d.drop (k + 1)) := by
  rcases h with ⟨x, y, z, r, rfl, hx, hy, hz⟩ | h
  · refine .inl ?_
    match k with
    | 0 =>
      show 2 ≤ big (b :: y :: z :: r.take 1)
      have := big_ge b (y :: z :: r.take 1)
      rw [big_c y _ hy, big_c z _ hz] at this
      omega
    | 1 =>
      show 2 ≤ big (x :: b :: z :: r.take 1)
      have := big_ge b (z :: r.take 1)
      rw [big_c z _ hz] at this
      rw [big_c x _ hx]
      omega
    | 2 =>
      show 2 ≤ big (x :: y :: b :: r.take 1)
      rw [big_c x _ hx, big_c y _ hy]
      omega
    | k + 3 =>
      show 2 ≤ big (x :: y :: z :: (r.take k ++ [b] ++ r.drop (k + 1)).take 1)
      rw [big_c x _ hx, big_c y _ hy]
      omega
  · exact .inr (by simp only [List.length_append, List.length_take, List.length_drop, List.length_cons, List.length_nil]; omega)
theorem hd_put {d : List Int} (h : H3 d) (k : Nat) (b : Int) : Hd (d.take k ++ [b] ++ d.drop k) := by
  rcases h with ⟨x, y, z, r, rfl, hx, hy, hz⟩ | h
  · refine .inl ?_
    match k with
    | 0 =>
      show 2 ≤ big (b :: x :: y :: z :: [])
      have := big_ge b (x :: y :: z :: [])
      rw [big_c x _ hx, big_c y _ hy] at this
      omega
    | 1 =>
      show 2 ≤ big (x :: b :: y :: z :: [])
      have := big_ge b (y :: z :: [])
      rw [big_c y _ hy] at this
      rw [big_c x _ hx]
      omega
    | 2 =>
      show 2 ≤ big (x :: y :: b :: z :: [])
      rw [big_c x _ hx, big_c y _ hy]
      omega
    | k + 3 =>
      show 2 ≤ big (x :: y :: z :: (r.take k ++ [b] ++ r.drop k).take 1)
      rw [big_c x _ hx, big_c y _ hy]
      omega
  · exact .inr (by simp only [List.length_append, List.length_take, List.length_drop, List.length_cons, List.length_nil]; omega)
theorem hd_out {d : List Int} (h : H3 d) (k : Nat) : Hd (d.take k ++ d.drop (k + 1)) := by
  rcases h with ⟨x, y, z, r, rfl, hx, hy, hz⟩ | h
  · refine .inl ?_
    match k with
    | 0 =>
      show 2 ≤ big (y :: z :: r.take 2)
      rw [big_c y _ hy, big_c z _ hz]
      omega
    | 1 =>
      show 2 ≤ big (x :: z :: r.take 2)
      rw [big_c x _ hx, big_c z _ hz]
      omega
    | 2 =>
      show 2 ≤ big (x :: y :: r.take 2)
      rw [big_c x _ hx, big_c y _ hy]
      omega
    | k + 3 =>
      show 2 ≤ big (x :: y :: z :: (r.take k ++ r.drop (k + 1)).take 1)
      rw [big_c x _ hx, big_c y _ hy]
      omega
  · exact .inr (by simp only [List.length_append, List.length_take, List.length_drop]; omega)
theorem cut_but {α : Type} (xs : List α) (h : 1 ≤ xs.length) : cut xs none (some (-1)) = xs.take (xs.length - 1) := by
  have : cut xs none (some (-1)) = cut xs none (some ((xs.length - 1 : Nat) : Int)) := by
    unfold cut HT.sIx
    have e1 : ((-1 : Int) < 0) := by omega
    have e2 : ¬ (((xs.length - 1 : Nat) : Int) < 0) := by omega
    simp only [e1, e2, if_true, if_false]
    congr 1
    congr 1
    omega
  rw [this, cut_hi']
theorem num_one (n : Int) (h0 : 0 ≤ n) (h1 : n < 128) : num n = [128 + n] := by
  unfold num
  have e1 : n.toNat / 128 = 0 := by omega
  have e2 : n % 128 = n := by omega
  rw [e1, digs_0, e2]
  rfl
end K21
/-! # k21: drawn postings -/
namespace K21
open PySem PySem.Spec PyProof.Rows L2 MI
theorem pw_ascI : ∀ {q : Int} {l : List Int}, (∀ x ∈ l, q < x) → l.Pairwise (· < ·) → AscI q l
  | _, [], _, _ => trivial
  | q, n :: l, h, hp => by
    obtain ⟨h1, h2⟩ := List.pairwise_cons.mp hp
    exact ⟨h n List.mem_cons_self, pw_ascI h1 h2⟩
def rngL (k : Nat) : List Int := (List.range k).map fun (i : Nat) => (i : Int)
theorem rngL_il (k : Nat) : rangeD 0 k = IL (rngL k) := by
  rw [rangeD_map]
  show _ = List.map D.int (List.map _ _)
  rw [List.map_map]
  exact List.map_congr_left fun i _ => by rw [Int.zero_add]; rfl
theorem rngL_pw (k : Nat) : (rngL k).Pairwise (· < ·) := by
  unfold rngL
  rw [List.pairwise_map]
  exact List.pairwise_lt_range.imp fun h => by omega
theorem rngL_mem {k : Nat} {x : Int} (h : x ∈ rngL k) : 0 ≤ x ∧ x < k := by
  obtain ⟨i, hi, rfl⟩ := List.mem_map.mp h
  have := List.mem_range.mp hi
  omega
/-- places that are drawn -/
def Dp (ps : List Int) : Prop := AscI (-1) ps ∧ ps.length ≤ 6 ∧ ∀ v ∈ ps, v ≤ 306
theorem cond_go (c1 c2 c3 c4 c5 : Slot) : ∀ (l : List Int) (acc : List D) (gl : List MObj), Bx gl → acc.length + l.length ≤ 1000 →
    ∃ l' gl', compGo [6] (tgName 6) c__law_postings_1 (mLeak (mVar 6)) (IL l) acc ⟨[.val (.ref 1), c1, c2, c3, c4, c5, .none], gl⟩ = some (acc ++ IL l', ⟨[.val (.ref 1), c1, c2, c3, c4, c5, .none], gl'⟩) ∧ Bx gl' ∧ l'.Sublist l
  | [], acc, gl, hB, _ => ⟨[], gl, by simp [compGo], hB, .slnil⟩
  | i :: l, acc, gl, hB, hl => by
    simp only [List.length_cons] at hl
    obtain ⟨r, gl1, d1, r0, r1, B1⟩ := draw_spec gl 2 hB (by omega) (by omega)
    have hz : acc.length < sizeLine := by rw [sizeLine_eq]; omega
    have cq : c__law_postings_1 ⟨[.val (.ref 1), c1, c2, c3, c4, c5, .val (.int i)], gl⟩ = .ok (decide (r = 0)) ⟨[.val (.ref 1), c1, c2, c3, c4, c5, .val (.int i)], gl1⟩ := by
      by_cases h : r = 0 <;> simp [c__law_postings_1, d1, h]
    have e1 : ∀ gl, mLeak (mVar 6) ⟨[.val (.ref 1), c1, c2, c3, c4, c5, .val (.int i)], gl⟩ = .ok (.int i) ⟨[.val (.ref 1), c1, c2, c3, c4, c5, .val (.int i)], gl⟩ := fun gl => by simp
    have ws : wipeS (⟨[.val (.ref 1), c1, c2, c3, c4, c5, .val (.int i)], gl1⟩ : S) [6] = ⟨[.val (.ref 1), c1, c2, c3, c4, c5, .none], gl1⟩ := rfl
    show ∃ l' gl', compGo _ _ _ _ (.int i :: IL l) acc _ = _ ∧ _
    unfold compGo
    rw [ap_tgName, as_d (by simp)]
    simp only [List.set_cons_succ, List.set_cons_zero, cq]
    by_cases h : r = 0
    · obtain ⟨l', gl', w, B', hs⟩ := cond_go c1 c2 c3 c4 c5 l (acc ++ [.int i]) gl1 B1 (by simp; omega)
      refine ⟨i :: l', gl', ?_, B', .cons_cons _ hs⟩
      rw [decide_eq_true h]
      simp only [if_true, e1, hz, ws, w]
      simp
    · obtain ⟨l', gl', w, B', hs⟩ := cond_go c1 c2 c3 c4 c5 l acc gl1 B1 (by omega)
      refine ⟨l', gl', ?_, B', .cons _ hs⟩
      rw [decide_eq_false h]
      simp only [Bool.false_eq_true, if_false, ws, w]
theorem dp_sub {l : List Int} {k : Nat} (h : l.Sublist (rngL k)) (hk : k ≤ 6) : AscI (-1) l ∧ l.length ≤ 6 ∧ ∀ v ∈ l, 0 ≤ v ∧ v ≤ 6 := by
  have hm : ∀ v ∈ l, 0 ≤ v ∧ v < k := fun v m => rngL_mem (h.subset m)
  refine ⟨pw_ascI (fun v m => by have := hm v m; omega) (List.Pairwise.sublist h (rngL_pw k)), ?_, fun v m => by have := hm v m; omega⟩
  have := h.length_le
  unfold rngL at this
  rw [List.length_map, List.length_range] at this
  omega
theorem places_spec (c1 c2 c3 c4 c5 : Slot) (gl : List MObj) (hB : Bx gl) : ∃ l gl', mComp [6] (iRange1 (mACons (mCall f__law_draw (mACons (mVar 0) (mACons (mC (.int 7)) mANil))) mANil)) (tgName 6) c__law_postings_1 (mVar 6) ⟨[.val (.ref 1), c1, c2, c3, c4, c5, .none], gl⟩ = .ok (.new (.lst (IL l))) ⟨[.val (.ref 1), c1, c2, c3, c4, c5, .none], gl'⟩ ∧ Bx gl' ∧ AscI (-1) l ∧ l.length ≤ 6 ∧ ∀ v ∈ l, 0 ≤ v ∧ v ≤ 6 := by
  obtain ⟨k, gl1, d1, k0, k1, B1⟩ := draw_spec gl 7 hB (by omega) (by omega)
  obtain ⟨k, rfl⟩ : ∃ j : Nat, k = j := ⟨k.toNat, by omega⟩
  obtain ⟨l, gl', w, B', hs⟩ := cond_go c1 c2 c3 c4 c5 (rngL k) [] gl1 B1 (by unfold rngL; simp; omega)
  have hr : rng1 (k : Int) = some (rangeD 0 k) := rng1_nat (by omega)
  rw [rngL_il] at hr
  refine ⟨l, gl', ?_, B', dp_sub hs (by omega)⟩
  have it : iRange1 (mACons (mCall f__law_draw (mACons (mVar 0) (mACons (mC (.int 7)) mANil))) mANil) ⟨[.val (.ref 1), c1, c2, c3, c4, c5, .none], gl⟩ = .ok (IL (rngL k)) ⟨[.val (.ref 1), c1, c2, c3, c4, c5, .none], gl1⟩ := by
    generalize IL (rngL k) = R at hr
    simp [d1, hr]
  have no : noOwn [.val (.ref 1), c1, c2, c3, c4, c5, .none] [6] = true := rfl
  rw [ap_Comp, it, Res.bind_ok, if_pos no]
  show (match compGo [6] (tgName 6) c__law_postings_1 (mLeak (mVar 6)) (IL (rngL k)) [] ⟨[.val (.ref 1), c1, c2, c3, c4, c5, .none], gl1⟩ with | some (acc, s2) => Res.ok (RV.new (.lst acc)) ⟨restE [.val (.ref 1), c1, c2, c3, c4, c5, .none] s2.env [6], s2.gl⟩ | none => .stuck) = _
  rw [w]
  rfl
end K21
/-! # k21: the law's postings -/
namespace K21
open PySem PySem.Spec PyProof.Rows L2 MI
theorem ascI_snoc_up {z w : Int} (hw : z ≤ w) : ∀ {q : Int} {a : List Int}, AscI q (a ++ [z]) → AscI q (a ++ [w])
  | q, [], h => ⟨by have := h.1; omega, trivial⟩
  | q, n :: a, h => ⟨h.1, ascI_snoc_up hw h.2⟩
theorem ascI_snoc : ∀ {a : List Int} {q w : Int}, AscI q a → (∀ x ∈ a, x < w) → q < w → AscI q (a ++ [w])
  | [], q, w, _, _, h => ⟨h, trivial⟩
  | n :: a, q, w, h, hx, hq => ⟨h.1, ascI_snoc h.2 (fun x m => hx x (List.mem_cons_of_mem _ m)) (hx n List.mem_cons_self)⟩
theorem q_neE {s : S} {l : List Int} : opEq true s (.d (.tup (IL l))) (.d (.tup [])) = .ok (.d (.bl (!decide (l = [])))) s := by
  cases l <;> rfl
/-- drawn so far -/
structure Iv (lo : Nat) (xs : List Pg) (ls : List Int) : Prop where
  len : ls.length = lo
  asc : AscI (-1) (xs.map (·.n))
  low : ∀ x ∈ xs, 0 ≤ x.n ∧ x.n < lo
  ok : ∀ x ∈ xs, Gp x ∧ x.ps.length ≤ 6 ∧ (∀ v ∈ x.ps, v ≤ 306) ∧ ∃ v, ls[x.n.toNat]? = some v ∧ (x.ps.length : Int) ≤ v
  vals : ∀ v ∈ ls, 0 ≤ v ∧ v ≤ 10
  few : xs.length ≤ lo
theorem iv_keep {lo : Nat} {xs : List Pg} {ls : List Int} (h : Iv lo xs ls) (v : Int) (h0 : 0 ≤ v) (h1 : v ≤ 10) : Iv (lo + 1) xs (ls ++ [v]) := by
  refine ⟨by simp [h.len], h.asc, fun x m => by have := h.low x m; omega, fun x m => ?_, fun w m => ?_, by have := h.few; omega⟩
  · obtain ⟨a, b, c, w, e, le⟩ := h.ok x m
    refine ⟨a, b, c, w, ?_, le⟩
    rw [List.getElem?_append_left (List.getElem?_eq_some_iff.mp e).1]
    exact e
  · rcases List.mem_append.mp m with m | m
    · exact h.vals w m
    · rw [List.mem_singleton.mp m]; exact ⟨h0, h1⟩
theorem iv_put {lo : Nat} {xs : List Pg} {ls : List Int} (h : Iv lo xs ls) (v : Int) (h1 : v ≤ 10) (ps : List Int) (hne : ps ≠ []) (ha : AscI (-1) ps) (hl : ps.length ≤ 6) (hv : ∀ w ∈ ps, w ≤ 306) (hlv : (ps.length : Int) ≤ v) : Iv (lo + 1) (xs ++ [⟨lo, ps⟩]) (ls ++ [v]) := by
  have k := iv_keep h v (by omega) h1
  refine ⟨k.len, ?_, fun x m => ?_, fun x m => ?_, k.vals, by have := h.few; simp; omega⟩
  · rw [List.map_append]
    refine ascI_snoc h.asc (fun x m => ?_) (by show (-1 : Int) < lo; omega)
    obtain ⟨y, my, rfl⟩ := List.mem_map.mp m
    exact (h.low y my).2
  · rcases List.mem_append.mp m with m | m
    · exact k.low x m
    · rw [List.mem_singleton.mp m]
      show 0 ≤ (lo : Int) ∧ (lo : Int) < (lo + 1 : Nat)
      omega
  · rcases List.mem_append.mp m with m | m
    · exact k.ok x m
    · rw [List.mem_singleton.mp m]
      refine ⟨⟨hne, ha⟩, hl, hv, v, ?_, hlv⟩
      show (ls ++ [v])[((lo : Nat) : Int).toNat]? = some v
      rw [toNat_len, ← h.len]
      simp
theorem lp_step (c1 c5 : Slot) (gl : List MObj) (hB : Bx gl) (lo : Nat) (hlo : lo ≤ 100) (xs : List Pg) (ls : List Int) (h : Iv lo xs ls) :
    ∃ xs' ls' c5' gl', l__law_postings_2 ⟨[.val (.ref 1), c1, .val (.int lo), .own (.lst (xs.map pgD)), .own (.lst (IL ls)), c5, .none], gl⟩ = .ok .nx ⟨[.val (.ref 1), c1, .val (.int lo), .own (.lst (xs'.map pgD)), .own (.lst (IL ls')), c5', .none], gl'⟩ ∧ Bx gl' ∧ Iv (lo + 1) xs' ls' := by
  obtain ⟨l, gl1, w, B1, la, ll, lv⟩ := places_spec c1 (.val (.int lo)) (.own (.lst (xs.map pgD))) (.own (.lst (IL ls))) c5 gl hB
  have hf := h.few
  have hlen := h.len
  -- the places
  obtain ⟨ps, gl2, st2, B2, pa, pl, pv, pe⟩ : ∃ ps gl2, (mSet 5 (mIf (mAndT (mBl (mBin (opEq true) (mVar 5) (mTup mANil))) (mBl (mBin (opEq false) (mCall f__law_draw (mACons (mVar 0) (mACons (mC (.int 8)) mANil))) (mC (.int 0))))) (mBin opAdd (mSlice (mVar 5) mNoPart (mPart (mFn1 fNeg (mC (.int 1))))) (mTup (mACons (mBin opAdd (mBin opIx (mVar 5) (mFn1 fNeg (mC (.int 1)))) (mC (.int 300))) mANil))) (mVar 5))) ⟨[.val (.ref 1), c1, .val (.int lo), .own (.lst (xs.map pgD)), .own (.lst (IL ls)), .val (.tup (IL l)), .none], gl1⟩ = .ok .nx ⟨[.val (.ref 1), c1, .val (.int lo), .own (.lst (xs.map pgD)), .own (.lst (IL ls)), .val (.tup (IL ps)), .none], gl2⟩ ∧ Bx gl2 ∧ AscI (-1) ps ∧ ps.length ≤ 6 ∧ (∀ v ∈ ps, v ≤ 306) ∧ True := by
    have ne := fun s => q_neE (s := s) (l := l)
    rcases List.eq_nil_or_concat l with rfl | ⟨a, z, rfl⟩
    · have n0 : ∀ s, opEq true s (.d (.tup [])) (.d (.tup [])) = .ok (.d (.bl false)) s := fun s => rfl
      exact ⟨[], gl1, by simp [n0, as_d], B1, trivial, by simp, fun _ m => (nomatch m), trivial⟩
    · rw [List.concat_eq_append] at la ll lv ne ⊢
      rw [decide_eq_false (by simp)] at ne
      obtain ⟨r, gl2, d2, r0, r1, B2⟩ := draw_spec gl1 8 B1 (by omega) (by omega)
      have hz := lv z (by simp)
      have sl : ∀ s, opSl none (some (-1)) s (.d (.tup (IL (a ++ [z])))) = .ok (.d (.tup (IL a))) s := fun s => by
        rw [q_slT, cut_but _ (by simp)]
        simp
      have ix : ∀ s, opIx s (.d (.tup (IL (a ++ [z])))) (.d (.int (-1))) = .ok (.d (.int z)) s := fun s => q_ixT (by show atI (List.map D.int (a ++ [z])) (-1) = _; rw [List.map_append]; exact atI_last _ _)
      have ad : ∀ s, opAdd s (.d (.tup (IL a))) (.d (.tup [.int (z + 300)])) = .ok (.d (.tup (IL (a ++ [z + 300])))) s := fun s => q_addI (b := [z + 300]) (by simp at ll ⊢; omega)
      by_cases hr : r = 0
      · refine ⟨a ++ [z + 300], gl2, ?_, B2, ascI_snoc_up (by omega) la, by simpa using ll, fun v m => ?_, trivial⟩
        · generalize IL (a ++ [z]) = L at ne sl ix
          generalize IL (a ++ [z + 300]) = L2 at ad ⊢
          simp [ne, d2, hr, asInt, sl, ix, ad, as_d]
        · rcases List.mem_append.mp m with m | m
          · have := lv v (List.mem_append_left _ m); omega
          · rw [List.mem_singleton.mp m]; omega
      · refine ⟨a ++ [z], gl2, ?_, B2, la, ll, fun v m => by have := lv v m; omega, trivial⟩
        generalize IL (a ++ [z]) = L at ne sl ix ⊢
        simp [ne, d2, hr, as_d]
  obtain ⟨r, gl3, d3, r0, r1, B3⟩ := draw_spec gl2 5 B2 (by omega) (by omega)
  have fa := fApp_ok (IL ls) (.int ((ps.length : Int) + r)) (by rw [List.length_map]; omega)
  have fe : IL ls ++ [.int ((ps.length : Int) + r)] = IL (ls ++ [(ps.length : Int) + r]) := by simp
  rw [fe] at fa
  have ln : ∀ s, fLen s (.d (.tup (IL ps))) = .ok (.d (.int ps.length)) s := fun s => by rw [q_lenT, List.length_map]
  have ne := fun s => q_neE (s := s) (l := ps)
  have a1 : ∀ s, asLst s (.at 3) = some (xs.map pgD) → opAdd s (.at 3) (.new (.lst [.tup [.int lo, .tup (IL ps)]])) = .ok (.new (.lst ((xs ++ [(⟨lo, ps⟩ : Pg)]).map pgD))) s := fun s hs => by
    rw [q_addL hs rfl (szN _ (by simp; omega))]
    simp [pgD]
  have a2 : ∀ s, asLst s (.at 3) = some (xs.map pgD) → opAdd s (.at 3) (.new (.lst [])) = .ok (.new (.lst (xs.map pgD))) s := fun s hs => by
    rw [q_addL hs rfl (szN _ (by simp; omega))]
    simp
  have s1 : (mSet 5 (mFn1 fTuple (mComp [6] (iRange1 (mACons (mCall f__law_draw (mACons (mVar 0) (mACons (mC (.int 7)) mANil))) mANil)) (tgName 6) c__law_postings_1 (mVar 6)))) ⟨[.val (.ref 1), c1, .val (.int lo), .own (.lst (xs.map pgD)), .own (.lst (IL ls)), c5, .none], gl⟩ = .ok .nx ⟨[.val (.ref 1), c1, .val (.int lo), .own (.lst (xs.map pgD)), .own (.lst (IL ls)), .val (.tup (IL l)), .none], gl1⟩ := by
    generalize IL l = L at w ⊢
    simp [-ap_Comp, w, as_d]
  by_cases hp : ps = []
  · rw [decide_eq_true hp] at ne
    refine ⟨xs, ls ++ [(ps.length : Int) + r], .val (.tup (IL ps)), gl3, ?_, B3, iv_keep h _ (by omega) (by omega)⟩
    unfold l__law_postings_2
    rw [seq_nx s1, seq_nx st2]
    generalize IL ps = L at ln ne a1 ⊢
    generalize IL (ls ++ [(ps.length : Int) + r]) = M at fa ⊢
    simp [-List.map_append, ln, d3, fa, ne, a2, asLst, as_new]
  · rw [decide_eq_false hp] at ne
    refine ⟨xs ++ [(⟨lo, ps⟩ : Pg)], ls ++ [(ps.length : Int) + r], .val (.tup (IL ps)), gl3, ?_, B3, iv_put h _ (by omega) ps hp pa pl pv (by omega)⟩
    unfold l__law_postings_2
    rw [seq_nx s1, seq_nx st2]
    generalize IL ps = L at ln ne a1 ⊢
    generalize IL (ls ++ [(ps.length : Int) + r]) = M at fa ⊢
    simp [-List.map_append, ln, d3, fa, ne, a1, asLst, as_new]
theorem lp_loop (c1 : Slot) : ∀ (k lo : Nat) (xs : List Pg) (ls : List Int) (c2 c5 : Slot) (gl : List MObj), Bx gl → lo + k ≤ 100 → Iv lo xs ls →
    ∃ xs' ls' c2' c5' gl', forGo (tgName 2) l__law_postings_2 (rangeD lo k) ⟨[.val (.ref 1), c1, c2, .own (.lst (xs.map pgD)), .own (.lst (IL ls)), c5, .none], gl⟩ = .ok .nx ⟨[.val (.ref 1), c1, c2', .own (.lst (xs'.map pgD)), .own (.lst (IL ls')), c5', .none], gl'⟩ ∧ Bx gl' ∧ Iv (lo + k) xs' ls'
  | 0, lo, xs, ls, c2, c5, gl, hB, _, h => ⟨xs, ls, c2, c5, gl, rfl, hB, h⟩
  | k + 1, lo, xs, ls, c2, c5, gl, hB, hl, h => by
    obtain ⟨xs1, ls1, d5, gl1, st, B1, h1⟩ := lp_step c1 c5 gl hB lo (by omega) xs ls h
    obtain ⟨xs2, ls2, e2, e5, gl2, w, B2, h2⟩ := lp_loop c1 k (lo + 1) xs1 ls1 (.val (.int lo)) d5 gl1 B1 (by omega) h1
    refine ⟨xs2, ls2, e2, e5, gl2, ?_, B2, by rw [show lo + (k + 1) = lo + 1 + k by omega]; exact h2⟩
    rw [rangeD]
    refine (fc_ok (s1 := ⟨[.val (.ref 1), c1, .val (.int lo), .own (.lst (xs.map pgD)), .own (.lst (IL ls)), c5, .none], gl⟩) (by rw [ap_tgName, as_d (by simp)]; rfl) st).trans ?_
    rw [show ((lo : Int) + 1) = ((lo + 1 : Nat) : Int) by omega]
    exact w
theorem postings_spec (many : Nat) (hm : many ≤ 50) (gl : List MObj) (hB : Bx gl) : ∃ xs ls gl', f__law_postings [.ref 1, .int many] gl = .ok (.tup [.tup (xs.map pgD), .tup (IL ls)]) gl' ∧ Bx gl' ∧ Iv many xs ls := by
  obtain ⟨xs, ls, d2, d5, gl', w, B', h⟩ := lp_loop (.val (.int many)) many 0 [] [] .none .none gl hB (by omega) ⟨rfl, trivial, fun _ m => (nomatch m), fun _ m => (nomatch m), fun _ m => (nomatch m), Nat.le_refl _⟩
  rw [Nat.zero_add] at h
  refine ⟨xs, ls, gl', ?_, B', h⟩
  have hr : rng1 (many : Int) = some (rangeD 0 many) := rng1_nat (by omega)
  have t1 : ∀ s, asLst s (.at 3) = some (xs.map pgD) → fTuple s (.at 3) = .ok (.d (.tup (xs.map pgD))) s := fun s h => by
    unfold fTuple asItems
    simp [h, asTup]
  have t2 : ∀ s, asLst s (.at 4) = some (IL ls) → fTuple s (.at 4) = .ok (.d (.tup (IL ls))) s := fun s h => by
    unfold fTuple asItems
    simp [h, asTup]
  simp only [List.map_nil, Int.natCast_zero] at w
  generalize IL ls = L at w t2 ⊢
  simp [-ap_Comp, f__law_postings, mDef, List.replicate, b__law_postings, as_new, as_d, hr, w, t1, t2, asLst]
end K21
/-! # k21: least lengths; bytes of postings as the package writes them -/
namespace K21
open PySem PySem.Spec PyProof.Rows L2 MI
def lv (ls : List Int) (x : Pg) : Int := ls.getD x.n.toNat 0
def lsP (ls : List Int) (p : List Pg) : Int := minL (p.map (lv ls))
def mss (ls : List Int) (b : Nat) (xs : List Pg) : List Int := (parts b xs).map (lsP ls)
/-- a drawn posting, and its least length -/
def Sm (ls : List Int) (lo : Nat) (x : Pg) : Prop := Gp x ∧ x.ps.length ≤ 6 ∧ (∀ v ∈ x.ps, v ≤ 306) ∧ 0 ≤ x.n ∧ x.n < lo ∧ ls[x.n.toNat]? = some (lv ls x) ∧ (x.ps.length : Int) ≤ lv ls x ∧ lv ls x ≤ 10
theorem iv_sm {lo : Nat} {xs : List Pg} {ls : List Int} (h : Iv lo xs ls) : ∀ x ∈ xs, Sm ls lo x := fun x m => by
  obtain ⟨a, b, c, v, e, le⟩ := h.ok x m
  obtain ⟨l0, l1⟩ := h.low x m
  have ev : lv ls x = v := by unfold lv; rw [List.getD_eq_getElem?_getD, e]; rfl
  refine ⟨a, b, c, l0, l1, by rw [ev]; exact e, by rw [ev]; exact le, by rw [ev]; exact (h.vals v (List.mem_of_getElem? e)).2⟩
theorem gps_drawn (ls : List Int) (lo b : Nat) (hb : 0 < b) : ∀ (rem : List Pg) (q : Int), AscI q (rem.map (·.n)) → (∀ x ∈ rem, Sm ls lo x) → GPs q (parts b rem) (mss ls b rem) := by
  refine parts_ind b hb ?_ fun rem hne ih => ?_
  · intro q _ _
    unfold mss
    rw [parts_nil]
    trivial
  · intro q ha hs
    have hpn : rem.take b ≠ [] := parts_ne b hb rem _ (by rw [parts_cons hne hb]; exact List.mem_cons_self)
    obtain ⟨a1, a2, a3⟩ := ascI_cut b rem q ha hpn
    have hs' : ∀ x ∈ rem.take b, Sm ls lo x := fun x m => hs x (List.mem_of_mem_take m)
    have i := ih (lastN (rem.take b)) a3 fun x m => hs x (List.mem_of_mem_drop m)
    unfold mss at i ⊢
    rw [parts_cons hne hb, List.map_cons]
    refine ⟨hpn, fun x m => (hs' x m).1, a1, a2, ?_, i⟩
    have hm : lsP ls (rem.take b) ∈ (rem.take b).map (lv ls) := minL_mem (by simpa using hpn)
    obtain ⟨y, my, e⟩ := List.mem_map.mp hm
    rw [← e]
    have h1 := (hs' y my).2.2.2.2.2.2.1
    have h2 : minL (cnts (rem.take b)) ≤ y.ps.length := minL_le _ (List.mem_map.mpr ⟨y, my, rfl⟩)
    omega
def PL (b : Nat) : Nat → List (List Pg) → List (Nat × List Pg)
  | _, [] => []
  | o, p :: ps => (o, p) :: PL b (o + b) ps
theorem pl_len (b : Nat) : ∀ (o : Nat) (ps : List (List Pg)), (PL b o ps).length = ps.length
  | _, [] => rfl
  | o, p :: ps => by rw [PL, List.length_cons, List.length_cons, pl_len]
theorem pl_snd (b : Nat) {α : Type} (f : List Pg → α) : ∀ (o : Nat) (ps : List (List Pg)), (PL b o ps).map (fun z => f z.2) = ps.map f
  | _, [] => rfl
  | o, p :: ps => by rw [PL, List.map_cons, List.map_cons, pl_snd]
theorem pl_fst (b : Nat) : ∀ (o : Nat) (ps : List (List Pg)), rangeC (o : Int) b ps.length = (PL b o ps).map fun z => .int z.1
  | _, [] => rfl
  | o, p :: ps => by
    rw [PL, List.length_cons, rangeC, List.map_cons, ← pl_fst b (o + b) ps]
    have : (o : Int) + b = ((o + b : Nat) : Int) := by omega
    rw [this]
theorem pl_mem (b : Nat) (hb : 0 < b) (rows : List Pg) : ∀ (rem : List Pg) (o : Nat), rows.drop o = rem → ∀ z ∈ PL b o (parts b rem), z.2 = (rows.drop z.1).take b ∧ z.2 ≠ [] := by
  refine parts_ind b hb (fun o _ z m => by rw [parts_nil] at m; cases m) fun rem hne ih o hr z m => ?_
  have hpn := parts_ne b hb rem (rem.take b) (by rw [parts_cons hne hb]; exact List.mem_cons_self)
  rw [parts_cons hne hb, PL] at m
  rcases List.mem_cons.mp m with rfl | m
  · exact ⟨by rw [hr], hpn⟩
  · exact ih (o + b) (by rw [← List.drop_drop, hr]) z m
def ptD (p : List Pg) : D := .tup (p.map pgD)
theorem sl_part (rows : List Pg) (b o : Nat) (p : List Pg) (h : p = (rows.drop o).take b) (s : S) : opSl (some (o : Int)) (some ((o : Int) + b)) s (.d (.tup (rows.map pgD))) = .ok (.d (.tup (p.map pgD))) s := by
  unfold opSl
  simp only [asTup]
  rw [show ((o : Int) + b) = ((o + b : Nat) : Int) by omega, cut_lohi' (by omega), ← List.map_drop, ← List.map_take, show o + b - o = b by omega, ← h]
theorem blocks_of_spec (rows : List Pg) (b : Nat) (hb : 0 < b) (hb2 : b ≤ 100) (hl : rows.length ≤ 1000) (gl : List MObj) : f_blocks_of [.tup (rows.map pgD), .int b] gl = .ok (.lst ((parts b rows).map ptD)) gl := by
  have hr := rng_parts rows b hb (by omega) (by omega)
  have hf := pl_fst b 0 (parts b rows)
  simp only [Int.natCast_zero] at hf
  have hp := parts_fewer b hb rows
  have c : mComp [2] (iRange3 (mACons (mC (.int 0)) (mACons (mFn1 fLen (mVar 0)) (mACons (mVar 1) mANil)))) (tgName 2) mYes e_blocks_of_1 ⟨[.val (.tup (rows.map pgD)), .val (.int b), .none], gl⟩ = .ok (.new (.lst ((parts b rows).map ptD))) ⟨[.val (.tup (rows.map pgD)), .val (.int b), .none], gl⟩ := by
    rw [← pl_snd b ptD 0 (parts b rows)]
    refine comp_mapI (PL b 0 (parts b rows)) (fun z => .int z.1) (fun z => ptD z.2) (by simp [hr, hf]) (by simp) rfl (by rw [pl_len]; omega) fun z m => ?_
    have sl := sl_part rows b z.1 z.2 (pl_mem b hb rows rows 0 rfl z m).1
    simp [e_blocks_of_1, asInt, sl, ptD]
  simp [-ap_Comp, -List.map_map, f_blocks_of, mDef, List.replicate, b_blocks_of, c]
theorem ix_lv {ls : List Int} {lo : Nat} {x : Pg} (h : Sm ls lo x) : atI (IL ls) x.n = some (.int (lv ls x)) := by
  obtain ⟨_, _, _, h0, _, h1, _⟩ := h
  exact atI_il h0 h1
theorem lsP_fold {ls : List Int} {p : List Pg} (hne : p ≠ []) {s : S} {r : RV} (h : asD s r = some (.lst (IL (p.map (lv ls))))) : fFold minL true s r = .ok (.d (.int (lsP ls p))) s := fold_of h (by simpa using hne)
theorem il_map (p : List Pg) (f : Pg → Int) : IL (p.map f) = p.map fun x => D.int (f x) := by show List.map D.int (List.map _ _) = _; rw [List.map_map]; rfl
/-- what the package tells of a block; the lengths stand in a tuple or a list -/
theorem told_of_spec (p : List Pg) (ls : List Int) (lo : Nat) (hne : p ≠ []) (hl : p.length ≤ 1000) (hs : ∀ x ∈ p, Sm ls lo x) (L : D) (hL : L = .tup (IL ls) ∨ L = .lst (IL ls)) (gl : List MObj) : f_told_of_block [.tup (p.map pgD), L] gl = .ok (.tup [.int (lastN p), .int (maxL (cnts p)), .int (lsP ls p)]) gl := by
  have ng : ∀ s, fNeg s (.d (.int 1)) = .ok (.d (.int (-1))) s := fun s => rfl
  have c1 : mComp [3, 4] (iSeq (mVar 0)) (tgTup [3, 4]) mYes e_told_of_block_2 ⟨[.val (.tup (p.map pgD)), .val L, .none, .none, .none, .none], gl⟩ = .ok (.new (.lst (IL (cnts p)))) ⟨[.val (.tup (p.map pgD)), .val L, .none, .none, .none, .none], gl⟩ := by
    unfold cnts
    rw [il_map]
    refine comp_mapG p pgD (fun x => D.int (x.ps.length : Nat)) (by simp) rfl (by omega) fun x m => ?_
    have ln : ∀ s, fLen s (.d (.tup (IL x.ps))) = .ok (.d (.int x.ps.length)) s := fun s => by rw [q_lenT, List.length_map]
    exact ⟨[.val (.tup (p.map pgD)), .val L, .none, .val (.int x.n), .val (.tup (IL x.ps)), .none], [.val (.tup (p.map pgD)), .val L, .none, .val (.int x.n), .val (.tup (IL x.ps)), .none], by simp [wipeE, pgD, as_d], by simp [e_told_of_block_2, ln], rfl⟩
  have c2 : mComp [5, 3] (iSeq (mVar 0)) (tgTup [5, 3]) mYes e_told_of_block_1 ⟨[.val (.tup (p.map pgD)), .val L, .own (.lst (IL (cnts p))), .none, .none, .none], gl⟩ = .ok (.new (.lst (IL (p.map (lv ls))))) ⟨[.val (.tup (p.map pgD)), .val L, .own (.lst (IL (cnts p))), .none, .none, .none], gl⟩ := by
    rw [il_map p (lv ls)]
    refine comp_mapG p pgD (fun x => D.int (lv ls x)) (by simp) rfl (by omega) fun x m => ?_
    have ix : ∀ s, opIx s (.d L) (.d (.int x.n)) = .ok (.d (.int (lv ls x))) s := fun s => by
      rcases hL with rfl | rfl
      · exact q_ixT (ix_lv (hs x m))
      · exact q_ixL rfl (ix_lv (hs x m))
    exact ⟨[.val (.tup (p.map pgD)), .val L, .own (.lst (IL (cnts p))), .val (.tup (IL x.ps)), .none, .val (.int x.n)], [.val (.tup (p.map pgD)), .val L, .own (.lst (IL (cnts p))), .val (.tup (IL x.ps)), .none, .val (.int x.n)], by simp [wipeE, pgD, as_d], by simp [e_told_of_block_1, ix], rfl⟩
  obtain ⟨x, mx, at1, elt⟩ := last_at hne
  have ix1 : ∀ s, opIx s (.d (.tup (p.map pgD))) (.d (.int (-1))) = .ok (.d (pgD x)) s := fun s => q_ixT at1
  have ix2 : ∀ s, opIx s (.d (pgD x)) (.d (.int 0)) = .ok (.d (.int (lastN p))) s := fun s => by rw [elt]; exact q_ixT rfl
  have mx' : ∀ s, asD s (.at 2) = some (.lst (IL (cnts p))) → fFold maxL true s (.at 2) = .ok (.d (.int (maxL (cnts p)))) s := fun s h => fold_of h (cnts_ne hne)
  have mn : ∀ s, fFold minL true s (.new (.lst (IL (p.map (lv ls))))) = .ok (.d (.int (lsP ls p))) s := fun s => lsP_fold hne rfl
  generalize IL (cnts p) = C at c1 c2 mx'
  generalize IL (p.map (lv ls)) = M at c2 mn
  simp [-ap_Comp, f_told_of_block, mDef, List.replicate, b_told_of_block, c1, as_new, ix1, ix2, mx', c2, mn, asD]
end K21
/-! # k21: bytes of postings as the package writes them -/
namespace K21
open PySem PySem.Spec PyProof.Rows L2 MI
theorem set_end (gl : List MObj) (o o' : MObj) : (gl ++ [o]).set gl.length o' = gl ++ [o'] := by
  rw [List.set_append_right _ _ (Nat.le_refl _)]
  simp
theorem get_end (gl : List MObj) (o : MObj) : (gl ++ [o])[gl.length]? = some o := by simp
theorem set_mid (gl : List MObj) (o o' : MObj) (m : List MObj) : (gl ++ o :: m).set gl.length o' = gl ++ o' :: m := by
  rw [List.set_append_right _ _ (Nat.le_refl _)]
  simp
theorem get_mid (gl : List MObj) (o : MObj) (m : List MObj) : (gl ++ o :: m)[gl.length]? = some o := by simp
theorem nbs_loop (x0 : D) (gl : List MObj) : ∀ (ns acc : List Int) (y : Slot), NN ns → acc.length + (flat ns).length ≤ 100000 → ∃ y', forGo (tgName 2) l_numbers_bytes_1 (IL ns) ⟨[.val x0, .val (.ref gl.length), y], gl ++ [.lst (IL acc)]⟩ = .ok .nx ⟨[.val x0, .val (.ref gl.length), y'], gl ++ [.lst (IL (acc ++ flat ns))]⟩
  | [], acc, y, _, _ => ⟨y, by simp [forGo, flat]⟩
  | n :: ns, acc, y, hn, hl => by
    rw [flat_cons, List.length_append] at hl
    obtain ⟨y', ih⟩ := nbs_loop x0 gl ns (acc ++ num n) (.val (.int n)) (fun m h => hn m (List.mem_cons_of_mem _ h)) (by rw [List.length_append]; omega)
    have e1 := number_bytes_spec n (gl ++ [.lst (IL acc)]) (hn n List.mem_cons_self) (by omega)
    have e2 := fExt_lst (IL acc) (IL (num n)) (by simp only [List.length_map]; omega)
    have e3 : IL acc ++ IL (num n) = IL (acc ++ num n) := by simp
    rw [e3] at e2
    have st : l_numbers_bytes_1 ⟨[.val x0, .val (.ref gl.length), .val (.int n)], gl ++ [.lst (IL acc)]⟩ = .ok .nx ⟨[.val x0, .val (.ref gl.length), .val (.int n)], gl ++ [.lst (IL (acc ++ num n))]⟩ := by
      simp [-List.map_append, l_numbers_bytes_1, e1, e2, get_end, set_end]
    refine ⟨y', ?_⟩
    show forGo _ _ (.int n :: IL ns) _ = _
    rw [forGo_cons, ap_tgName, as_d (by simp)]
    simp only [List.set_cons_succ, List.set_cons_zero, st]
    rw [flat_cons, ← List.append_assoc]
    exact ih
theorem numbers_bytes_tup (ns : List Int) (gl : List MObj) (hn : NN ns) (hl : (flat ns).length ≤ 100000) : f_numbers_bytes [.tup (IL ns)] gl = .ok (.ref gl.length) (gl ++ [.lst (IL (flat ns))]) := by
  obtain ⟨y', h⟩ := nbs_loop (.tup (IL ns)) gl ns [] .none hn (by simpa using hl)
  simp at h
  simp [f_numbers_bytes, mDef, List.replicate, b_numbers_bytes, as_d, h]
theorem numbers_bytes_lst (ns : List Int) (gl : List MObj) (hn : NN ns) (hl : (flat ns).length ≤ 100000) : f_numbers_bytes [.lst (IL ns)] gl = .ok (.ref gl.length) (gl ++ [.lst (IL (flat ns))]) := by
  obtain ⟨y', h⟩ := nbs_loop (.lst (IL ns)) gl ns [] .none hn (by simpa using hl)
  simp at h
  simp [f_numbers_bytes, mDef, List.replicate, b_numbers_bytes, as_d, h]
theorem gaps_of_tup (ns : List Int) (b : Int) (gl : List MObj) (hl : ns.length ≤ 100000) : f_gaps_of [.tup (IL ns), .int b] gl = .ok (.lst (IL (gapsP ns b))) gl := by
  obtain ⟨y', b', h⟩ := gaps_loop (.tup (IL ns)) gl ns [] b .none (by simpa using hl)
  simp at h
  simp [f_gaps_of, mDef, List.replicate, b_gaps_of, as_new, h]
theorem gap_bytes_spec (ns : List Int) (q : Int) (L : D) (hL : L = .tup (IL ns) ∨ L = .lst (IL ns)) (gl : List MObj) (hn : NN (gapsP ns q)) (hl : (gb ns q).length ≤ 100000) (hl2 : ns.length ≤ 100000) : f_gap_bytes [L, .int q] gl = .ok (.ref gl.length) (gl ++ [.lst (IL (gb ns q))]) := by
  have g : f_gaps_of [L, .int q] gl = .ok (.lst (IL (gapsP ns q))) gl := by
    rcases hL with rfl | rfl
    · exact gaps_of_tup ns q gl hl2
    · exact gaps_of_spec ns q gl hl2
  have n := numbers_bytes_lst (gapsP ns q) gl hn hl
  have e : flat (gapsP ns q) = gb ns q := rfl
  rw [e] at n
  generalize IL (gapsP ns q) = G at g n
  generalize IL (gb ns q) = B at n ⊢
  simp [f_gap_bytes, mDef, List.replicate, b_gap_bytes, g, n]
theorem bb_loop (c0 c1 c5 : Slot) (g1 : List MObj) : ∀ (xs : List Pg) (acc : List Int) (m : List MObj) (c3 c4 : Slot), (∀ x ∈ xs, NN (gapsP x.ps (-1)) ∧ x.ps.length ≤ 1000) → acc.length + (pls xs).length ≤ 10000 →
    ∃ m' c3' c4', forGo (tgTup [3, 4]) l_block_bytes_1 (xs.map pgD) ⟨[c0, c1, .val (.ref g1.length), c3, c4, c5], g1 ++ .lst (IL acc) :: m⟩ = .ok .nx ⟨[c0, c1, .val (.ref g1.length), c3', c4', c5], g1 ++ .lst (IL (acc ++ pls xs)) :: m'⟩
  | [], acc, m, c3, c4, _, _ => ⟨m, c3, c4, by simp [forGo, pls]⟩
  | x :: xs, acc, m, c3, c4, h, hl => by
    have e0 : pls (x :: xs) = num x.ps.length ++ gb x.ps (-1) ++ pls xs := rfl
    rw [e0] at hl
    simp only [List.length_append] at hl
    obtain ⟨h1, h2⟩ := h x List.mem_cons_self
    have nb := fun gl => number_bytes_spec x.ps.length gl (by omega) (by omega)
    have ln : ∀ s, fLen s (.d (.tup (IL x.ps))) = .ok (.d (.int x.ps.length)) s := fun s => by rw [q_lenT, List.length_map]
    have gbs := gap_bytes_spec x.ps (-1) (.tup (IL x.ps)) (.inl rfl) (g1 ++ .lst (IL acc) :: m) h1 (by omega) (by omega)
    have ng : ∀ s, fNeg s (.d (.int 1)) = .ok (.d (.int (-1))) s := fun s => rfl
    have a1 : ∀ s n, asLst s (.d (.ref n)) = some (IL (gb x.ps (-1))) → opAdd s (.d (.lst (IL (num x.ps.length)))) (.d (.ref n)) = .ok (.new (.lst (IL (num x.ps.length ++ gb x.ps (-1))))) s := fun s n hh => q_addIL (by omega) rfl hh
    have ge : (g1 ++ .lst (IL acc) :: m ++ [.lst (IL (gb x.ps (-1)))])[(g1 ++ .lst (IL acc) :: m).length]? = some (.lst (IL (gb x.ps (-1)))) := get_end _ _
    have eA : g1 ++ MObj.lst (IL acc) :: m ++ [.lst (IL (gb x.ps (-1)))] = g1 ++ MObj.lst (IL acc) :: (m ++ [.lst (IL (gb x.ps (-1)))]) := by simp
    have gm : (g1 ++ .lst (IL acc) :: m ++ [.lst (IL (gb x.ps (-1)))])[g1.length]? = some (.lst (IL acc)) := by rw [eA]; exact get_mid _ _ _
    have gm0 : (g1 ++ .lst (IL acc) :: m)[g1.length]? = some (.lst (IL acc)) := get_mid _ _ _
    have sm : ∀ o', (g1 ++ MObj.lst (IL acc) :: m ++ [MObj.lst (IL (gb x.ps (-1)))]).set g1.length o' = g1 ++ o' :: (m ++ [MObj.lst (IL (gb x.ps (-1)))]) := fun o' => by rw [eA]; exact set_mid _ _ _ _
    have fe := fExt_lst (IL acc) (IL (num x.ps.length ++ gb x.ps (-1))) (by simp only [List.length_map, List.length_append]; omega)
    have fe2 : IL acc ++ IL (num x.ps.length ++ gb x.ps (-1)) = IL (acc ++ (num x.ps.length ++ gb x.ps (-1))) := by simp
    rw [fe2] at fe
    obtain ⟨m', d3, d4, w⟩ := bb_loop c0 c1 c5 g1 xs (acc ++ (num x.ps.length ++ gb x.ps (-1))) (m ++ [.lst (IL (gb x.ps (-1)))]) (.val (.int x.n)) (.val (.tup (IL x.ps))) (fun y my => h y (List.mem_cons_of_mem _ my)) (by simp only [List.length_append]; omega)
    refine ⟨m', d3, d4, ?_⟩
    rw [List.map_cons]
    refine (fc_ok (s1 := ⟨[c0, c1, .val (.ref g1.length), .val (.int x.n), .val (.tup (IL x.ps)), c5], g1 ++ .lst (IL acc) :: m⟩) (by simp [pgD, as_d]) (s2 := ⟨[c0, c1, .val (.ref g1.length), .val (.int x.n), .val (.tup (IL x.ps)), c5], g1 ++ .lst (IL (acc ++ (num x.ps.length ++ gb x.ps (-1)))) :: (m ++ [.lst (IL (gb x.ps (-1)))])⟩) ?_).trans ?_
    · generalize IL (acc ++ (num x.ps.length ++ gb x.ps (-1))) = A2 at fe ⊢
      generalize IL (num x.ps.length ++ gb x.ps (-1)) = B2 at a1 fe
      generalize IL (gb x.ps (-1)) = B at gbs a1 ge gm sm ⊢
      generalize g1 ++ MObj.lst (IL acc) :: m ++ [.lst B] = GL at gbs ge gm sm
      generalize hGG : g1 ++ MObj.lst (IL acc) :: m = GG at gbs ge gm0 ⊢
      simp [l_block_bytes_1, gm0, ln, nb, gbs, a1, asLst, ge, gm, fe, sm]
    · rw [w, e0]
      simp only [List.append_assoc]
theorem block_bytes_spec (p : List Pg) (q : Int) (gl : List MObj) (hn : NN (gapsP (p.map (·.n)) q)) (hp : ∀ x ∈ p, NN (gapsP x.ps (-1)) ∧ x.ps.length ≤ 1000) (hpl : p.length ≤ 1000) (hl : (blk q p).length ≤ 10000) : ∃ more, f_block_bytes [.tup (p.map pgD), .int q] gl = .ok (.ref gl.length) (gl ++ .lst (IL (blk q p)) :: more) := by
  unfold blk at hl ⊢
  rw [List.length_append] at hl
  have c1 : mComp [5, 3] (iSeq (mVar 0)) (tgTup [5, 3]) mYes (mVar 5) ⟨[.val (.tup (p.map pgD)), .val (.int q), .none, .none, .none, .none], gl⟩ = .ok (.new (.lst (IL (p.map (·.n))))) ⟨[.val (.tup (p.map pgD)), .val (.int q), .none, .none, .none, .none], gl⟩ := by
    rw [il_map]
    refine comp_mapG p pgD (fun x => D.int x.n) (by simp) rfl (by omega) fun x m => ?_
    exact ⟨[.val (.tup (p.map pgD)), .val (.int q), .none, .val (.tup (IL x.ps)), .none, .val (.int x.n)], [.val (.tup (p.map pgD)), .val (.int q), .none, .val (.tup (IL x.ps)), .none, .val (.int x.n)], by simp [wipeE, pgD, as_d], by simp, rfl⟩
  have gbs := gap_bytes_spec (p.map (·.n)) q (.lst (IL (p.map (·.n)))) (.inr rfl) gl hn (by omega) (by rw [List.length_map]; omega)
  obtain ⟨m', d3, d4, w⟩ := bb_loop (.val (.tup (p.map pgD))) (.val (.int q)) .none gl p (gb (p.map (·.n)) q) [] .none .none hp (by omega)
  refine ⟨m', ?_⟩
  generalize IL (p.map (·.n)) = NL at c1 gbs
  generalize IL (gb (p.map (·.n)) q) = B at gbs w
  generalize IL (gb (p.map (·.n)) q ++ pls p) = R at w ⊢
  simp [-ap_Comp, f_block_bytes, mDef, List.replicate, b_block_bytes, c1, gbs, as_d, w]
end K21
/-! # k21: write_postings -/
namespace K21
open PySem PySem.Spec PyProof.Rows L2 MI
theorem get_two (g1 m more : List MObj) (X Y Z : MObj) : (g1 ++ X :: (m ++ Y :: more))[(g1 ++ Z :: m).length]? = some Y := by
  have e : g1 ++ X :: (m ++ Y :: more) = (g1 ++ X :: m) ++ Y :: more := by simp
  rw [e, show (g1 ++ Z :: m).length = (g1 ++ X :: m).length by simp]
  exact get_mid _ _ _
theorem wp_step (ls : List Int) (lo : Nat) (hlo : lo ≤ 1000) (L : D) (hL : L = .tup (IL ls) ∨ L = .lst (IL ls)) (c0 c2 c7 c8 c9 c10 : Slot) (g1 : List MObj) (p : List Pg) (q : Int) (hne : p ≠ []) (hpl : p.length ≤ 1000) (hs : ∀ x ∈ p, Sm ls lo x) (ha : AscI q (p.map (·.n))) (hlt : q < lastN p) (hl : (blk q p).length ≤ 10000) (h acc : List Int) (m : List MObj)
    (h1 : h.length + (num (lastN p - q - 1) ++ num (maxL (cnts p)) ++ num (lsP ls p) ++ num ((blk q p).length : Nat)).length ≤ 100000) (h2 : acc.length + (blk q p).length ≤ 100000) :
    ∃ m' d7 d8 d9 d10, l_write_postings_1 ⟨[c0, .val L, c2, .val (ptD p), .val (.ref g1.length), .own (.lst (IL acc)), .val (.int q), c7, c8, c9, c10], g1 ++ .lst (IL h) :: m⟩
      = .ok .nx ⟨[c0, .val L, c2, .val (ptD p), .val (.ref g1.length), .own (.lst (IL (acc ++ blk q p))), .val (.int (lastN p)), d7, d8, d9, d10], g1 ++ .lst (IL (h ++ (num (lastN p - q - 1) ++ num (maxL (cnts p)) ++ num (lsP ls p) ++ num ((blk q p).length : Nat)))) :: m'⟩ := by
  have tl := told_of_spec p ls lo hne hpl hs L hL (g1 ++ .lst (IL h) :: m)
  obtain ⟨more, bb⟩ := block_bytes_spec p q (g1 ++ .lst (IL h) :: m) (ascI_gaps.mp ha) (fun x mx => ⟨ascI_gaps.mp (hs x mx).1.2, by have := (hs x mx).2.1; omega⟩) hpl hl
  have c0' := maxc_nn hne
  have l0 : 0 ≤ lsP ls p := by
    have hm : lsP ls p ∈ p.map (lv ls) := minL_mem (by simpa using hne)
    obtain ⟨y, my, e⟩ := List.mem_map.mp hm
    have := (hs y my).2.2.2.2.2.2.1
    omega
  have fl := flat4 (lastN p - q - 1) (maxL (cnts p)) (lsP ls p) ((blk q p).length : Nat)
  have nb := numbers_bytes_tup [lastN p - q - 1, maxL (cnts p), lsP ls p, ((blk q p).length : Nat)] ((g1 ++ .lst (IL h) :: m) ++ .lst (IL (blk q p)) :: more) (fun z mz => by
    simp only [List.mem_cons, List.not_mem_nil, or_false] at mz
    rcases mz with rfl | rfl | rfl | rfl <;> omega) (by rw [fl]; omega)
  rw [fl] at nb
  generalize hF : num (lastN p - q - 1) ++ num (maxL (cnts p)) ++ num (lsP ls p) ++ num ((blk q p).length : Nat) = F at nb h1 ⊢
  have nb : f_numbers_bytes [.tup [.int (lastN p - q - 1), .int (maxL (cnts p)), .int (lsP ls p), .int ((blk q p).length : Nat)]] ((g1 ++ .lst (IL h) :: m) ++ .lst (IL (blk q p)) :: more) = .ok (.ref ((g1 ++ .lst (IL h) :: m) ++ .lst (IL (blk q p)) :: more).length) (((g1 ++ .lst (IL h) :: m) ++ .lst (IL (blk q p)) :: more) ++ [.lst (IL F)]) := nb
  -- the store's cells
  have gA : ((g1 ++ .lst (IL h) :: m) ++ .lst (IL (blk q p)) :: more)[(g1 ++ MObj.lst (IL h) :: m).length]? = some (MObj.lst (IL (blk q p))) := get_mid _ _ _
  have ln : ∀ e, fLen ⟨e, (g1 ++ .lst (IL h) :: m) ++ .lst (IL (blk q p)) :: more⟩ (.d (.ref (g1 ++ MObj.lst (IL h) :: m).length)) = .ok (.d (.int ((blk q p).length : Nat))) ⟨e, (g1 ++ .lst (IL h) :: m) ++ .lst (IL (blk q p)) :: more⟩ := fun e => by
    unfold fLen asD
    simp only [gA, frzO, Option.bind_some, lenD, List.length_map]
  have e1 : (g1 ++ MObj.lst (IL h) :: m) ++ .lst (IL (blk q p)) :: more = g1 ++ MObj.lst (IL h) :: (m ++ .lst (IL (blk q p)) :: more) := by simp
  have e2 : ((g1 ++ MObj.lst (IL h) :: m) ++ .lst (IL (blk q p)) :: more) ++ [.lst (IL F)] = g1 ++ MObj.lst (IL h) :: (m ++ .lst (IL (blk q p)) :: (more ++ [.lst (IL F)])) := by simp
  have gB : ((g1 ++ MObj.lst (IL h) :: m) ++ .lst (IL (blk q p)) :: more)[g1.length]? = some (MObj.lst (IL h)) := by rw [e1]; exact get_mid _ _ _
  have gC : (((g1 ++ MObj.lst (IL h) :: m) ++ .lst (IL (blk q p)) :: more) ++ [.lst (IL F)])[g1.length]? = some (MObj.lst (IL h)) := by rw [e2]; exact get_mid _ _ _
  have gD : (((g1 ++ MObj.lst (IL h) :: m) ++ .lst (IL (blk q p)) :: more) ++ [.lst (IL F)])[((g1 ++ .lst (IL h) :: m) ++ .lst (IL (blk q p)) :: more).length]? = some (MObj.lst (IL F)) := get_end _ _
  have sE : ∀ o', (((g1 ++ MObj.lst (IL h) :: m) ++ MObj.lst (IL (blk q p)) :: more) ++ [MObj.lst (IL F)]).set g1.length o' = g1 ++ o' :: (m ++ MObj.lst (IL (blk q p)) :: (more ++ [MObj.lst (IL F)])) := fun o' => by rw [e2]; exact set_mid _ _ _ _
  have gF : ∀ o', (g1 ++ o' :: (m ++ MObj.lst (IL (blk q p)) :: (more ++ [.lst (IL F)])))[(g1 ++ MObj.lst (IL h) :: m).length]? = some (MObj.lst (IL (blk q p))) := fun o' => get_two _ _ _ _ _ _
  have sz1 : (IL h).length + (IL F).length ≤ sizeLine := szN _ (by simp only [List.length_map]; omega)
  have sz2 : (IL acc).length + (IL (blk q p)).length ≤ sizeLine := szN _ (by simp only [List.length_map]; omega)
  have cat1 : IL h ++ IL F = IL (h ++ F) := by simp
  have cat2 : IL acc ++ IL (blk q p) = IL (acc ++ blk q p) := by simp
  have i1 : ∀ e, itemsD ⟨e, ((g1 ++ MObj.lst (IL h) :: m) ++ .lst (IL (blk q p)) :: more) ++ [.lst (IL F)]⟩ (.ref ((g1 ++ .lst (IL h) :: m) ++ .lst (IL (blk q p)) :: more).length) = some (IL F) := fun e => by
    unfold itemsD
    simp only [gD]
  have i2 : ∀ e o', itemsD ⟨e, g1 ++ o' :: (m ++ MObj.lst (IL (blk q p)) :: (more ++ [.lst (IL F)]))⟩ (.ref (g1 ++ MObj.lst (IL h) :: m).length) = some (IL (blk q p)) := fun e o' => by
    unfold itemsD
    simp only [gF o']
  refine ⟨m ++ MObj.lst (IL (blk q p)) :: (more ++ [.lst (IL F)]), .val (.ref (g1 ++ .lst (IL h) :: m).length), .val (.int (lastN p)), .val (.int (maxL (cnts p))), .val (.int (lsP ls p)), ?_⟩
  unfold ptD
  generalize hn1 : ((g1 ++ MObj.lst (IL h) :: m) ++ MObj.lst (IL (blk q p)) :: more).length = n1 at nb i1
  generalize hn2 : (g1 ++ MObj.lst (IL h) :: m).length = n2 at bb ln i2 ⊢
  generalize hG3 : ((g1 ++ MObj.lst (IL h) :: m) ++ MObj.lst (IL (blk q p)) :: more) ++ [MObj.lst (IL F)] = G3 at nb gC sE i1
  generalize hG2 : (g1 ++ MObj.lst (IL h) :: m) ++ MObj.lst (IL (blk q p)) :: more = G2 at bb nb ln gB
  have gX : (g1 ++ MObj.lst (IL h) :: m)[g1.length]? = some (MObj.lst (IL h)) := get_mid _ _ _
  generalize hG1 : g1 ++ MObj.lst (IL h) :: m = G1 at tl bb gX ⊢
  generalize IL (acc ++ blk q p) = R2 at cat2 ⊢
  generalize IL (h ++ F) = R1 at cat1 ⊢
  generalize IL F = FL at sz1 cat1 i1 i2 sE ⊢
  generalize IL (blk q p) = BL at sz2 cat2 i2 sE ⊢
  generalize IL h = HL at gX gB gC sz1 cat1
  generalize IL acc = AL at sz2 cat2 ⊢
  simp [l_write_postings_1, tl, as_d, bb, ap_ExtX, gX, gB, gC, ln, nb, i1, sz1, cat1, sE, i2, sz2, cat2]
end K21
/-! # k21: lengths of drawn bytes; write_postings -/
namespace K21
open PySem PySem.Spec PyProof.Rows L2 MI
theorem num_le2 (n : Int) (h : n < 16384) : (num n).length ≤ 2 := by
  unfold num
  rw [List.length_append]
  have := digs_len 1 (n.toNat / 128) (by
    have : n.toNat < 16384 := by omega
    omega)
  simp
  omega
theorem gapsP_le {M : Int} (hM : 0 ≤ M) : ∀ {ns : List Int} {q : Int}, -1 ≤ q → AscI q ns → (∀ n ∈ ns, n ≤ M) → ∀ g ∈ gapsP ns q, g ≤ M
  | [], _, _, _, _, g, m => nomatch m
  | n :: ns, q, hq, h, hm, g, m => by
    have h1 : q < n := h.1
    rcases List.mem_cons.mp m with rfl | m
    · have := hm n List.mem_cons_self
      omega
    · exact gapsP_le hM (by omega) h.2 (fun x mx => hm x (List.mem_cons_of_mem _ mx)) g m
theorem flat_le2 : ∀ {ns : List Int}, (∀ n ∈ ns, n < 16384) → (flat ns).length ≤ 2 * ns.length
  | [], _ => Nat.zero_le _
  | n :: ns, h => by
    rw [flat_cons, List.length_append, List.length_cons]
    have := num_le2 n (h n List.mem_cons_self)
    have := flat_le2 fun x m => h x (List.mem_cons_of_mem _ m)
    omega
theorem gb_le {M : Int} (hM : 0 ≤ M) (hM2 : M < 16384) {ns : List Int} {q : Int} (hq : -1 ≤ q) (h : AscI q ns) (hm : ∀ n ∈ ns, n ≤ M) : (gb ns q).length ≤ 2 * ns.length := by
  have g := gapsP_le hM hq h hm
  have := flat_le2 (ns := gapsP ns q) fun n m => by have := g n m; omega
  rw [gapsP_len] at this
  exact this
theorem pls_le {ls : List Int} {lo : Nat} : ∀ {xs : List Pg}, (∀ x ∈ xs, Sm ls lo x) → (pls xs).length ≤ 14 * xs.length
  | [], _ => Nat.zero_le _
  | x :: xs, h => by
    obtain ⟨⟨g1, g2⟩, h2, h3, _⟩ := h x List.mem_cons_self
    have i := pls_le fun y m => h y (List.mem_cons_of_mem _ m)
    have n1 := num_le2 x.ps.length (by omega)
    have n2 := gb_le (M := 306) (by omega) (by omega) (by omega) g2 h3
    show (num x.ps.length ++ gb x.ps (-1) ++ pls xs).length ≤ _
    simp only [List.length_append, List.length_cons]
    omega
theorem blk_le {ls : List Int} {lo : Nat} (hlo : lo ≤ 1000) {xs : List Pg} {q : Int} (hq : -1 ≤ q) (ha : AscI q (xs.map (·.n))) (h : ∀ x ∈ xs, Sm ls lo x) : (blk q xs).length ≤ 16 * xs.length := by
  have i := pls_le h
  have n2 := gb_le (M := 1000) (by omega) (by omega) hq ha fun n m => by
    obtain ⟨x, mx, rfl⟩ := List.mem_map.mp m
    have := (h x mx).2.2.2.2.1
    omega
  rw [List.length_map] at n2
  unfold blk
  rw [List.length_append]
  omega
theorem bdP_le {ls : List Int} {lo : Nat} (hlo : lo ≤ 1000) (b : Nat) (hb : 0 < b) : ∀ (rem : List Pg) (q : Int), -1 ≤ q → AscI q (rem.map (·.n)) → (∀ x ∈ rem, Sm ls lo x) → (bdP q (parts b rem)).length ≤ 16 * rem.length := by
  refine parts_ind b hb (fun q _ _ _ => by rw [parts_nil]; exact Nat.zero_le _) fun rem hne ih q hq ha hs => ?_
  have hpn : rem.take b ≠ [] := parts_ne b hb rem _ (by rw [parts_cons hne hb]; exact List.mem_cons_self)
  obtain ⟨a1, a2, a3⟩ := ascI_cut b rem q ha hpn
  have i := ih (lastN (rem.take b)) (by omega) a3 fun x m => hs x (List.mem_of_mem_drop m)
  have j := blk_le hlo hq a1 fun x m => hs x (List.mem_of_mem_take m)
  rw [parts_cons hne hb]
  show (blk q (rem.take b) ++ bdP (lastN (rem.take b)) (parts b (rem.drop b))).length ≤ _
  rw [List.length_append]
  have := congrArg List.length (List.take_append_drop b rem)
  rw [List.length_append] at this
  omega
theorem last_lo {ls : List Int} {lo : Nat} {p : List Pg} (hne : p ≠ []) (h : ∀ x ∈ p, Sm ls lo x) : 0 ≤ lastN p ∧ lastN p < lo := by
  obtain ⟨x, mx, _, e⟩ := last_at hne
  rw [e]
  exact ⟨(h x mx).2.2.2.1, (h x mx).2.2.2.2.1⟩
theorem ls_lo {ls : List Int} {lo : Nat} {p : List Pg} (hne : p ≠ []) (h : ∀ x ∈ p, Sm ls lo x) : 0 ≤ lsP ls p ∧ lsP ls p ≤ 10 := by
  have hm : lsP ls p ∈ p.map (lv ls) := minL_mem (by simpa using hne)
  obtain ⟨y, my, e⟩ := List.mem_map.mp hm
  have := (h y my).2.2.2.2.2.2
  omega
theorem mx_lo {ls : List Int} {lo : Nat} {p : List Pg} (hne : p ≠ []) (h : ∀ x ∈ p, Sm ls lo x) : 0 ≤ maxL (cnts p) ∧ maxL (cnts p) ≤ 6 := by
  refine ⟨maxc_nn hne, ?_⟩
  have hm := maxL_mem (cnts_ne hne)
  obtain ⟨y, my, e⟩ := List.mem_map.mp hm
  have := (h y my).2.1
  omega
theorem hsP_le {ls : List Int} {lo : Nat} (hlo : lo ≤ 1000) (b : Nat) (hb : 0 < b) : ∀ (rem : List Pg) (q : Int), -1 ≤ q → AscI q (rem.map (·.n)) → (∀ x ∈ rem, Sm ls lo x) → rem.length ≤ 1000 → (hsP q (parts b rem) (mss ls b rem)).length ≤ 8 * rem.length := by
  refine parts_ind b hb (fun q _ _ _ _ => by rw [parts_nil]; exact Nat.zero_le _) fun rem hne ih q hq ha hs hl => ?_
  have hpn : rem.take b ≠ [] := parts_ne b hb rem _ (by rw [parts_cons hne hb]; exact List.mem_cons_self)
  obtain ⟨a1, a2, a3⟩ := ascI_cut b rem q ha hpn
  have hs' : ∀ x ∈ rem.take b, Sm ls lo x := fun x m => hs x (List.mem_of_mem_take m)
  have tl := congrArg List.length (List.take_append_drop b rem)
  rw [List.length_append] at tl
  have tp := List.length_pos_iff.mpr hpn
  have i := ih (lastN (rem.take b)) (by omega) a3 (fun x m => hs x (List.mem_of_mem_drop m)) (by omega)
  have j := blk_le hlo hq a1 hs'
  have l0 := last_lo hpn hs'
  have l1 := ls_lo hpn hs'
  have l2 := mx_lo hpn hs'
  have e1 : mss ls b rem = lsP ls (rem.take b) :: mss ls b (rem.drop b) := by unfold mss; rw [parts_cons hne hb]; rfl
  have n1 := num_le2 (lastN (rem.take b) - q - 1) (by omega)
  have n2 := num_le2 (maxL (cnts (rem.take b))) (by omega)
  have n3 := num_le2 (lsP ls (rem.take b)) (by omega)
  have n4 := num_le2 ((blk q (rem.take b)).length : Nat) (by omega)
  rw [e1, parts_cons hne hb]
  show (num (lastN (rem.take b) - q - 1) ++ num (maxL (cnts (rem.take b))) ++ num (lsP ls (rem.take b)) ++ num ((blk q (rem.take b)).length : Nat) ++ hsP (lastN (rem.take b)) (parts b (rem.drop b)) (mss ls b (rem.drop b))).length ≤ _
  simp only [List.length_append]
  omega
theorem wp_loop (ls : List Int) (lo : Nat) (hlo : lo ≤ 1000) (L : D) (hL : L = .tup (IL ls) ∨ L = .lst (IL ls)) (b : Nat) (hb : 0 < b) (c0 c2 : Slot) (g1 : List MObj) : ∀ (rem : List Pg) (q : Int) (h acc : List Int) (m : List MObj) (c3 c7 c8 c9 c10 : Slot), -1 ≤ q → AscI q (rem.map (·.n)) → (∀ x ∈ rem, Sm ls lo x) → rem.length ≤ 200 → h.length + (hsP q (parts b rem) (mss ls b rem)).length ≤ 10000 → acc.length + (bdP q (parts b rem)).length ≤ 10000 →
    ∃ q' m' d3 d7 d8 d9 d10, forGo (tgName 3) l_write_postings_1 ((parts b rem).map ptD) ⟨[c0, .val L, c2, c3, .val (.ref g1.length), .own (.lst (IL acc)), .val (.int q), c7, c8, c9, c10], g1 ++ .lst (IL h) :: m⟩
      = .ok .nx ⟨[c0, .val L, c2, d3, .val (.ref g1.length), .own (.lst (IL (acc ++ bdP q (parts b rem)))), .val (.int q'), d7, d8, d9, d10], g1 ++ .lst (IL (h ++ hsP q (parts b rem) (mss ls b rem))) :: m'⟩ := by
  refine parts_ind b hb ?_ fun rem hne ih => ?_
  · intro q h acc m c3 c7 c8 c9 c10 _ _ _ _ _ _
    refine ⟨q, m, c3, c7, c8, c9, c10, ?_⟩
    rw [parts_nil]
    simp [forGo, hsP, bdP]
  · intro q h acc m c3 c7 c8 c9 c10 hq ha hs hrl hl1 hl2
    have hpn : rem.take b ≠ [] := parts_ne b hb rem _ (by rw [parts_cons hne hb]; exact List.mem_cons_self)
    obtain ⟨a1, a2, a3⟩ := ascI_cut b rem q ha hpn
    have hs' : ∀ x ∈ rem.take b, Sm ls lo x := fun x mm => hs x (List.mem_of_mem_take mm)
    have e1 : mss ls b rem = lsP ls (rem.take b) :: mss ls b (rem.drop b) := by unfold mss; rw [parts_cons hne hb]; rfl
    have e2 : hsP q (rem.take b :: parts b (rem.drop b)) (lsP ls (rem.take b) :: mss ls b (rem.drop b)) = (num (lastN (rem.take b) - q - 1) ++ num (maxL (cnts (rem.take b))) ++ num (lsP ls (rem.take b)) ++ num ((blk q (rem.take b)).length : Nat)) ++ hsP (lastN (rem.take b)) (parts b (rem.drop b)) (mss ls b (rem.drop b)) := rfl
    have e3 : bdP q (rem.take b :: parts b (rem.drop b)) = blk q (rem.take b) ++ bdP (lastN (rem.take b)) (parts b (rem.drop b)) := rfl
    rw [parts_cons hne hb, e1, e2] at hl1
    rw [parts_cons hne hb, e3] at hl2
    rw [List.length_append] at hl1 hl2
    have tk : (rem.take b).length ≤ rem.length := by rw [List.length_take]; omega
    have j := blk_le hlo hq a1 hs'
    obtain ⟨m1, d7, d8, d9, d10, st⟩ := wp_step ls lo hlo L hL c0 c2 c7 c8 c9 c10 g1 (rem.take b) q hpn (by omega) hs' a1 a2 (by omega) h acc m (by omega) (by omega)
    obtain ⟨q', m2, f3, f7, f8, f9, f10, w⟩ := ih (lastN (rem.take b)) (h ++ (num (lastN (rem.take b) - q - 1) ++ num (maxL (cnts (rem.take b))) ++ num (lsP ls (rem.take b)) ++ num ((blk q (rem.take b)).length : Nat))) (acc ++ blk q (rem.take b)) m1 (.val (ptD (rem.take b))) d7 d8 d9 d10 (by omega) a3 (fun x mm => hs x (List.mem_of_mem_drop mm)) (by rw [List.length_drop]; omega) (by rw [List.length_append]; omega) (by rw [List.length_append]; omega)
    refine ⟨q', m2, f3, f7, f8, f9, f10, ?_⟩
    rw [parts_cons hne hb, List.map_cons]
    refine (fc_ok (by rw [ap_tgName, as_d (by simp)]; rfl) st).trans (w.trans ?_)
    rw [e1, e2, e3, List.append_assoc, List.append_assoc]
theorem dat_le {ls : List Int} {lo : Nat} (hlo : lo ≤ 1000) (xs : List Pg) (b : Nat) (hb : 0 < b) (hb2 : b ≤ 100) (ha : AscI (-1) (xs.map (·.n))) (hs : ∀ x ∈ xs, Sm ls lo x) (hl : xs.length ≤ 1000) : (datP xs b (mss ls b xs)).length ≤ 4 + 24 * xs.length := by
  have h1 := bdP_le hlo b hb xs (-1) (by omega) ha hs
  have h2 := hsP_le hlo b hb xs (-1) (by omega) ha hs hl
  have n1 := num_le2 xs.length (by omega)
  have n2 := num_le2 b (by omega)
  rw [datP_len]
  omega
theorem write_postings_spec (ls : List Int) (lo : Nat) (hlo : lo ≤ 1000) (L : D) (hL : L = .tup (IL ls) ∨ L = .lst (IL ls)) (xs : List Pg) (b : Nat) (hb : 0 < b) (hb2 : b ≤ 100) (ha : AscI (-1) (xs.map (·.n))) (hs : ∀ x ∈ xs, Sm ls lo x) (hl : xs.length ≤ 200) (gl : List MObj) :
    ∃ more, f_write_postings [.tup (xs.map pgD), L, .int b] gl = .ok (.tup (IL (datP xs b (mss ls b xs)))) (gl ++ more) := by
  have h1 := bdP_le hlo b hb xs (-1) (by omega) ha hs
  have h2 := hsP_le hlo b hb xs (-1) (by omega) ha hs (by omega)
  have n1 := num_le2 xs.length (by omega)
  have n2 := num_le2 b (by omega)
  have nb := numbers_bytes_tup [(xs.length : Int), (b : Int)] gl (fun x m => by simp at m; omega) (by rw [flat2, List.length_append]; omega)
  rw [flat2] at nb
  have nb : f_numbers_bytes [.tup [.int xs.length, .int b]] gl = .ok (.ref gl.length) (gl ++ [.lst (IL (num xs.length ++ num b))]) := nb
  have bo := fun gl => blocks_of_spec xs b hb hb2 (by omega) gl
  obtain ⟨q', m', d3, d7, d8, d9, d10, w⟩ := wp_loop ls lo hlo L hL b hb (.val (.tup (xs.map pgD))) (.val (.int b)) gl xs (-1) (num xs.length ++ num b) [] [] .none .none .none .none .none (by omega) ha hs hl (by rw [List.length_append]; omega) (by simp; omega)
  have ln : ∀ s, fLen s (.d (.tup (xs.map pgD))) = .ok (.d (.int xs.length)) s := fun s => by rw [q_lenT, List.length_map]
  have ng : ∀ s, fNeg s (.d (.int 1)) = .ok (.d (.int (-1))) s := fun s => rfl
  refine ⟨.lst (IL (num xs.length ++ num b ++ hsP (-1) (parts b xs) (mss ls b xs))) :: m', ?_⟩
  have e : datP xs b (mss ls b xs) = (num xs.length ++ num b ++ hsP (-1) (parts b xs) (mss ls b xs)) ++ bdP (-1) (parts b xs) := by unfold datP; simp
  rw [e]
  simp only [List.map_nil, List.nil_append] at w
  have gm : (gl ++ MObj.lst (IL (num xs.length ++ num b ++ hsP (-1) (parts b xs) (mss ls b xs))) :: m')[gl.length]? = some (MObj.lst (IL (num xs.length ++ num b ++ hsP (-1) (parts b xs) (mss ls b xs)))) := get_mid _ _ _
  have a2 : ∀ s, asLst s (.d (.ref gl.length)) = some (IL (num xs.length ++ num b ++ hsP (-1) (parts b xs) (mss ls b xs))) → asLst s (.at 5) = some (IL (bdP (-1) (parts b xs))) → opAdd s (.d (.ref gl.length)) (.at 5) = .ok (.new (.lst (IL ((num xs.length ++ num b ++ hsP (-1) (parts b xs) (mss ls b xs)) ++ bdP (-1) (parts b xs))))) s := fun s p1 p2 => q_addIL (by simp only [List.length_append]; omega) p1 p2
  generalize IL ((num xs.length ++ num b ++ hsP (-1) (parts b xs) (mss ls b xs)) ++ bdP (-1) (parts b xs)) = R at a2 ⊢
  generalize IL (num xs.length ++ num b ++ hsP (-1) (parts b xs) (mss ls b xs)) = H at w gm a2 ⊢
  generalize IL (num (xs.length : Int) ++ num (b : Int)) = H0 at nb w
  generalize IL (bdP (-1) (parts b xs)) = B at w a2
  generalize (parts b xs).map ptD = PL at bo w
  simp [f_write_postings, mDef, List.replicate, b_write_postings, ln, nb, as_d, as_new, bo, w, asLst, gm, a2]
end K21
/-! # k21: good bytes -/
namespace K21
open PySem PySem.Spec PyProof.Rows L2 MI
theorem byt_flat : ∀ ns : List Int, Byt (flat ns)
  | [] => fun _ m => nomatch m
  | n :: ns => by rw [flat_cons]; exact byt_app (num_bytes n) (byt_flat ns)
theorem byt_pls : ∀ xs : List Pg, Byt (pls xs)
  | [] => fun _ m => nomatch m
  | x :: xs => byt_app (byt_app (num_bytes _) (byt_flat _)) (byt_pls xs)
theorem byt_blk (q : Int) (xs : List Pg) : Byt (blk q xs) := byt_app (byt_flat _) (byt_pls xs)
theorem byt_bd : ∀ (ps : List (List Pg)) (q : Int), Byt (bdP q ps)
  | [], _ => fun _ m => nomatch m
  | p :: ps, q => byt_app (byt_blk q p) (byt_bd ps _)
theorem byt_hs : ∀ (ps : List (List Pg)) (q : Int) (ms : List Int), Byt (hsP q ps ms)
  | [], _, _ => fun _ m => nomatch m
  | _ :: _, _, [] => fun _ m => nomatch m
  | p :: ps, q, m :: ms => byt_app (byt_app (byt_app (byt_app (num_bytes _) (num_bytes _)) (num_bytes _)) (num_bytes _)) (byt_hs ps _ ms)
theorem byt_dat (xs : List Pg) (b : Nat) (ms : List Int) : Byt (datP xs b ms) := byt_app (byt_app (num_bytes _) (num_bytes _)) (byt_app (byt_hs _ _ _) (byt_bd _ _))
theorem gps_rows : ∀ (l : List Rw) (q : Int) (ms : List Int), GPs q (l.map (·.p)) ms → l.map (·.q) = prv q (l.map (·.p)) → ∀ z ∈ l, AscI z.q (z.p.map (·.n)) ∧ ∀ x ∈ z.p, Gp x
  | [], _, _, _, _, z, m => nomatch m
  | y :: l, q, [], g, _, z, m => g.elim
  | y :: l, q, w :: ms, g, hq, z, m => by
    obtain ⟨g1, g2, g3, g4, g5, g6⟩ := g
    have hq : y.q :: l.map (·.q) = q :: prv (lastN y.p) (l.map (·.p)) := hq
    injection hq with h1 h2
    rcases List.mem_cons.mp m with rfl | m
    · rw [h1]
      exact ⟨g3, g2⟩
    · exact gps_rows l _ ms g6 h2 z m
theorem h3_dat {ls : List Int} {lo : Nat} (hlo : lo ≤ 100) (xs : List Pg) (b : Nat) (hb : 0 < b) (hb2 : b ≤ 100) (hs : ∀ x ∈ xs, Sm ls lo x) (hl : xs.length ≤ 100) : H3 (datP xs b (mss ls b xs)) := by
  have n1 := num_one xs.length (by omega) (by omega)
  have n2 := num_one b (by omega) (by omega)
  by_cases hne : xs = []
  · refine .inr ?_
    subst hne
    rw [datP_len, n1, n2, parts_nil]
    simp [hsP, bdP]
  · refine .inl ?_
    have hpn : xs.take b ≠ [] := parts_ne b hb xs _ (by rw [parts_cons hne hb]; exact List.mem_cons_self)
    have l0 := last_lo hpn fun x m => hs x (List.mem_of_mem_take m)
    have n3 := num_one (lastN (xs.take b) - (-1) - 1) (by omega) (by omega)
    have e1 : mss ls b xs = lsP ls (xs.take b) :: mss ls b (xs.drop b) := by unfold mss; rw [parts_cons hne hb]; rfl
    have e2 : hsP (-1) (parts b xs) (mss ls b xs) = num (lastN (xs.take b) - (-1) - 1) ++ num (maxL (cnts (xs.take b))) ++ num (lsP ls (xs.take b)) ++ num ((blk (-1) (xs.take b)).length : Nat) ++ hsP (lastN (xs.take b)) (parts b (xs.drop b)) (mss ls b (xs.drop b)) := by rw [parts_cons hne hb, e1]; rfl
    refine ⟨128 + xs.length, 128 + b, 128 + (lastN (xs.take b) - (-1) - 1), (num (maxL (cnts (xs.take b))) ++ num (lsP ls (xs.take b)) ++ num ((blk (-1) (xs.take b)).length : Nat) ++ hsP (lastN (xs.take b)) (parts b (xs.drop b)) (mss ls b (xs.drop b))) ++ bdP (-1) (parts b xs), ?_, by omega, by omega, by omega⟩
    rw [dat_eq, e2, n1, n2, n3]
    simp
/-! ### alike itself -/
theorem pl_pg (n : Nat) (x : Pg) (h : x.ps.length ≤ 100000) : Pl (n + 3) (pgD x) := .tup _ _ (by simp) (.cons _ _ _ (.int _ _) (.cons _ _ _ (pl_tupI n x.ps h) (.nil _)))
theorem pl_pgs (n : Nat) : ∀ xs : List Pg, (∀ x ∈ xs, x.ps.length ≤ 100000) → PlL (n + 3) (xs.map pgD)
  | [], _ => .nil _
  | x :: xs, h => .cons _ _ _ (pl_pg n x (h x List.mem_cons_self)) (pl_pgs n xs fun y m => h y (List.mem_cons_of_mem _ m))
theorem pl_pts (n : Nat) : ∀ l : List Rw, (∀ z ∈ l, z.p.length ≤ 100000 ∧ ∀ x ∈ z.p, x.ps.length ≤ 100000) → PlL (n + 4) (l.map fun z => ptD z.p)
  | [], _ => .nil _
  | z :: l, h => .cons _ _ _ (.tup _ _ (by rw [List.length_map]; exact (h z List.mem_cons_self).1) (pl_pgs n z.p (h z List.mem_cons_self).2)) (pl_pts n l fun y m => h y (List.mem_cons_of_mem _ m))
end K21
/-! # k21: rows of a table; what is read of bytes in which some blocks are other ones -/
namespace K21
open PySem PySem.Spec PyProof.Rows L2 MI
/-- the rows that a table tells -/
def rws : Nat → Int → List (List Pg) → List Int → List Rw
  | _, _, [], _ => []
  | _, _, _ :: _, [] => []
  | pl, q, p :: ps, m :: ms => ⟨(p.length : Nat), q, lastN p, maxL (cnts p), m, (pl : Nat), ((blk q p).length : Nat), p⟩ :: rws (pl + (blk q p).length) (lastN p) ps ms
theorem rws_p : ∀ (ps : List (List Pg)) (pl : Nat) (q : Int) (ms : List Int), GPs q ps ms → (rws pl q ps ms).map (·.p) = ps
  | [], _, _, _, _ => rfl
  | _ :: _, _, _, [], h => h.elim
  | p :: ps, pl, q, m :: ms, h => by
    obtain ⟨_, _, _, _, _, h6⟩ := h
    rw [rws, List.map_cons, rws_p ps _ _ ms h6]
/-- what is so of each row -/
def RwG (z : Rw) : Prop := z.p ≠ [] ∧ z.size = (z.p.length : Nat) ∧ z.t0 = lastN z.p ∧ z.t1 = maxL (cnts z.p) ∧ z.ln = ((blk z.q z.p).length : Nat) ∧ (∀ x ∈ z.p, Gp x) ∧ AscI z.q (z.p.map (·.n)) ∧ minL (cnts z.p) ≤ z.t2
theorem rws_g : ∀ (ps : List (List Pg)) (pl : Nat) (q : Int) (ms : List Int), GPs q ps ms → ∀ z ∈ rws pl q ps ms, RwG z
  | [], _, _, _, _ => fun z m => nomatch m
  | _ :: _, _, _, [], h => h.elim
  | p :: ps, pl, q, m :: ms, h => by
    obtain ⟨h1, h2, h3, h4, h5, h6⟩ := h
    intro z mz
    rw [rws, List.mem_cons] at mz
    rcases mz with rfl | mz
    · exact ⟨h1, rfl, rfl, rfl, rfl, h2, h3, h5⟩
    · exact rws_g ps _ _ ms h6 z mz
theorem tab_rws (b : Nat) (hb : 0 < b) : ∀ (rem : List Pg) (q : Int) (ms : List Int) (pl : Nat) (left : Int), GPs q (parts b rem) ms → (rem ≠ [] → left = rem.length) →
    tabD b left q pl (trs q (parts b rem) ms) = (rws pl q (parts b rem) ms).map Rw.d := by
  refine parts_ind b hb ?_ fun rem hne ih => ?_
  · intro q ms pl left hg _
    rw [parts_nil]
    rfl
  · intro q ms pl left hg h1
    have h1 := h1 hne
    rw [parts_cons hne hb] at hg ⊢
    cases ms with
    | nil => exact hg.elim
    | cons m ms =>
      obtain ⟨g1, g2, g3, g4, g5, g6⟩ := hg
      have e : minI (b : Int) left = ((rem.take b).length : Nat) := by
        unfold minI
        rw [List.length_take, h1]
        split <;> omega
      have z := ih (lastN (rem.take b)) ms (pl + (blk q (rem.take b)).length) (left - b) g6 (fun hd => by
        have : 0 < (rem.drop b).length := List.length_pos_iff.mpr hd
        rw [List.length_drop] at this ⊢
        omega)
      rw [trs, tabD, rws, List.map_cons, e, show q + 1 + (lastN (rem.take b) - q - 1) = lastN (rem.take b) by omega, ← z]
      rfl
/-- what stands ahead of the blocks -/
def hdr (xs : List Pg) (b : Nat) (ms : List Int) : List Int := num xs.length ++ num b ++ hsP (-1) (parts b xs) ms
theorem datP_hdr (xs : List Pg) (b : Nat) (ms : List Int) : datP xs b ms = hdr xs b ms ++ bdP (-1) (parts b xs) := by unfold datP hdr; simp
theorem rdT_tail (xs : List Pg) (b : Nat) (hb : 0 < b) (ms : List Int) (h : GPs (-1) (parts b xs) ms) (t : List Int) (ht : t.length = (bdP (-1) (parts b xs)).length) :
    rdT (hdr xs b ms ++ t) = some (((xs.length : Nat) : Int), (b : Int), trs (-1) (parts b xs) ms, t) := by
  have r2 := rdsM_good [(xs.length : Int), (b : Int)] (hsP (-1) (parts b xs) ms ++ t) (fun x m => by
    simp only [List.mem_cons, List.not_mem_nil, or_false] at m
    rcases m with rfl | rfl <;> omega)
  rw [flat2] at r2
  have e : hdr xs b ms ++ t = num xs.length ++ num b ++ (hsP (-1) (parts b xs) ms ++ t) := by unfold hdr; simp
  have r2 : rdsM 2 (hdr xs b ms ++ t) = _ := e ▸ r2
  have rt := rtR_good b hb t xs (-1) ms (hsP (-1) (parts b xs) ms ++ t).length xs.length h (fun z => by rw [z]; simp) (fun _ => rfl) (by rw [List.length_append]; omega)
  unfold rdT
  rw [r2]
  simp only
  rw [if_neg (by omega), rt]
  simp only
  rw [if_pos (by rw [sumT_trs _ _ _ h, ht])]
theorem tbl_spec (xs : List Pg) (b : Nat) (hb : 0 < b) (ms : List Int) (h : GPs (-1) (parts b xs) ms) (t : List Int) (ht : t.length = (bdP (-1) (parts b xs)).length) (hB : Byt (hdr xs b ms ++ t)) (hd : (hdr xs b ms ++ t).length ≤ 5000) (gl : List MObj) :
    f_read_table [.tup (IL (hdr xs b ms ++ t))] gl = .ok (.tup [.int (xs.length : Nat), .lst ((rws (hdr xs b ms).length (-1) (parts b xs) ms).map Rw.d)]) gl := by
  have := tab_m gl hd hB
  rw [rdT_tail xs b hb ms h t ht] at this
  obtain ⟨_, _, e⟩ := this
  rw [e]
  have ep : pos (hdr xs b ms ++ t) t = ((hdr xs b ms).length : Nat) := by unfold pos; rw [List.length_append]; omega
  rw [ep, tab_rws b hb xs (-1) ms _ _ h fun _ => rfl]
/-- blocks: as many, as long -/
def FitB : Int → List (List Pg) → List (List Int) → Prop
  | _, [], [] => True
  | q, p :: ps, B :: bs => B.length = (blk q p).length ∧ FitB (lastN p) ps bs
  | _, _, _ => False
def bks : Int → List (List Pg) → List (List Int)
  | _, [] => []
  | q, p :: ps => blk q p :: bks (lastN p) ps
theorem bks_flat : ∀ (ps : List (List Pg)) (q : Int), (bks q ps).flatten = bdP q ps
  | [], _ => rfl
  | p :: ps, q => by rw [bks, List.flatten_cons, bks_flat ps, bdP]
theorem bks_fit : ∀ (ps : List (List Pg)) (q : Int), FitB q ps (bks q ps)
  | [], _ => trivial
  | p :: ps, q => ⟨rfl, bks_fit ps _⟩
theorem fit_len : ∀ {ps : List (List Pg)} {q : Int} {bs : List (List Int)}, FitB q ps bs → bs.flatten.length = (bdP q ps).length ∧ bs.length = ps.length
  | [], _, [], _ => ⟨rfl, rfl⟩
  | [], _, _ :: _, h => h.elim
  | _ :: _, _, [], h => h.elim
  | p :: ps, q, B :: bs, h => by
    obtain ⟨h1, h2⟩ := h
    obtain ⟨i1, i2⟩ := fit_len h2
    rw [List.flatten_cons, bdP, List.length_append, List.length_append, h1, i1, List.length_cons, List.length_cons, i2]
    exact ⟨rfl, rfl⟩
/-- where a row's block stands -/
def At (d : List Int) (z : Rw) : Prop := ∃ pre post, d = pre ++ (blk z.q z.p ++ post) ∧ z.pl = (pre.length : Nat)
theorem at_of : ∀ (ps : List (List Pg)) (q : Int) (ms : List Int) (pre : List Int) (bs : List (List Int)), GPs q ps ms → FitB q ps bs →
    ∀ (k : Nat) (z : Rw), (rws pre.length q ps ms)[k]? = some z → bs[k]? = some (blk z.q z.p) → At (pre ++ bs.flatten) z
  | [], q, ms, pre, bs, _, _, k, z, h, _ => by simp [rws] at h
  | _ :: _, _, [], _, _, h, _, _, _, _, _ => h.elim
  | _ :: _, _, _ :: _, _, [], _, h, _, _, _, _ => h.elim
  | p :: ps, q, m :: ms, pre, B :: bs, hg, hf, k, z, hk, hB => by
    obtain ⟨_, _, _, _, _, h6⟩ := hg
    obtain ⟨f1, f2⟩ := hf
    cases k with
    | zero =>
      rw [rws, List.getElem?_cons_zero] at hk
      cases hk
      rw [List.getElem?_cons_zero] at hB
      cases hB
      exact ⟨pre, bs.flatten, by rw [List.flatten_cons], rfl⟩
    | succ k =>
      rw [rws, List.getElem?_cons_succ] at hk
      rw [List.getElem?_cons_succ] at hB
      have e : pre.length + (blk q p).length = (pre ++ B).length := by rw [List.length_append, f1]
      rw [e] at hk
      have := at_of ps (lastN p) ms (pre ++ B) bs h6 f2 k z hk hB
      rwa [List.append_assoc, ← List.flatten_cons] at this
theorem read_at {d : List Int} (hd : d.length ≤ 5000) (hB : Byt d) {z : Rw} (g : RwG z) (a : At d z) (gl : List MObj) : f_read_block [.tup (IL d), z.d] gl = .ok (.tup (z.p.map pgD)) gl := by
  obtain ⟨h1, h2, h3, h4, h5, h6, h7, h8⟩ := g
  obtain ⟨pre, post, e, hp⟩ := a
  have hs : 0 < z.size := by
    have := List.length_pos_iff.mpr h1
    omega
  have r := rb_m gl hd hB e z.size z.q z.t0 z.t1 z.t2 hs
  have go := rbM_good z.p z.q z.t2 h6 h7 h8
  rw [← h2, ← h3, ← h4] at go
  rw [go] at r
  rw [← hp, ← h5] at r
  exact r
end K21
/-! # k21: a cursor's fields and methods -/
namespace K21
open PySem PySem.Spec PyProof.Rows L2 MI
structure Cs where
  dd : List Int
  many : Int
  T : List D
  k : Int
  L : Int
  o : D
  r : Int
def csF (c : Cs) : List (Str × D) := [("_data", .tup (IL c.dd)), ("_many", .int c.many), ("_table", .lst c.T), ("_block", .int c.k), ("_least", .int c.L), ("_opened", c.o), ("_read", .int c.r)]
section
variable (c : Cs) (x : D)
@[simp] theorem cf_data : (csF c).lookup ("_data" : Str) = some (.tup (IL c.dd)) := rfl
@[simp] theorem cf_many : (csF c).lookup ("_many" : Str) = some (.int c.many) := rfl
@[simp] theorem cf_table : (csF c).lookup ("_table" : Str) = some (.lst c.T) := rfl
@[simp] theorem cf_block : (csF c).lookup ("_block" : Str) = some (.int c.k) := rfl
@[simp] theorem cf_least : (csF c).lookup ("_least" : Str) = some (.int c.L) := rfl
@[simp] theorem cf_opened : (csF c).lookup ("_opened" : Str) = some c.o := rfl
@[simp] theorem cf_read : (csF c).lookup ("_read" : Str) = some (.int c.r) := rfl
@[simp] theorem cp_block (k : Int) : putD "_block" (.int k) (csF c) = csF { c with k := k } := rfl
@[simp] theorem cp_least (k : Int) : putD "_least" (.int k) (csF c) = csF { c with L := k } := rfl
@[simp] theorem cp_opened : putD "_opened" x (csF c) = csF { c with o := x } := rfl
@[simp] theorem cp_read (k : Int) : putD "_read" (.int k) (csF c) = csF { c with r := k } := rfl
@[simp] theorem cf_len : (csF c).length = 7 := rfl
@[simp] theorem cm1 : (csF c).lookup ("_postings" : Str) = none := by rfl
@[simp] theorem cm2 : (csF c).lookup ("number" : Str) = none := by rfl
@[simp] theorem cm3 : (csF c).lookup ("places" : Str) = none := by rfl
@[simp] theorem cm4 : (csF c).lookup ("next" : Str) = none := by rfl
@[simp] theorem cm5 : (csF c).lookup ("seek" : Str) = none := by rfl
@[simp] theorem cm6 : (csF c).lookup ("_enter" : Str) = none := by rfl
@[simp] theorem cm7 : (csF c).lookup ("count" : Str) = none := by rfl
@[simp] theorem cm8 : (csF c).lookup ("block_told" : Str) = none := by rfl
@[simp] theorem cm9 : (csF c).lookup ("told_from" : Str) = none := by rfl
@[simp] theorem cm10 : (csF c).lookup ("blocks_read" : Str) = none := by rfl
end
def cO (c : Cs) : MObj := .ins "Cursor" (csF c)
section
variable {c : Cs} {i : Nat} {gl : List MObj}
theorem count_spec (h : gl[i]? = some (cO c)) : f_Cursor_count [.ref i] gl = .ok (.int c.many) gl := by
  unfold cO at h
  simp [f_Cursor_count, mDef, List.replicate, b_Cursor_count, h]
theorem read_spec (h : gl[i]? = some (cO c)) : f_Cursor_blocks_read [.ref i] gl = .ok (.int c.r) gl := by
  unfold cO at h
  simp [f_Cursor_blocks_read, mDef, List.replicate, b_Cursor_blocks_read, h]
theorem enter_spec (h : gl[i]? = some (cO c)) (k L : Int) : f_Cursor__enter [.ref i, .int k, .int L] gl = .ok .non (gl.set i (cO { c with k := k, L := L, o := if k = c.k then c.o else .non })) := by
  unfold cO at h ⊢
  have h2 : ∀ o', (gl.set i o')[i]? = some o' := fun o' => set_at h
  by_cases hk : k = c.k
  · have e : ∀ s, opEq true s (.d (.int k)) (.d (.int c.k)) = .ok (.d (.bl false)) s := fun s => by rw [q_eqI, hk]; simp
    simp [-q_eqI, f_Cursor__enter, mDef, List.replicate, b_Cursor__enter, h, e, h2, List.set_set]
    rw [if_pos hk]
  · have e : ∀ s, opEq true s (.d (.int k)) (.d (.int c.k)) = .ok (.d (.bl true)) s := fun s => by rw [q_eqI, beq_false_of_ne hk]; rfl
    simp [-q_eqI, f_Cursor__enter, mDef, List.replicate, b_Cursor__enter, h, e, h2, List.set_set]
    rw [if_neg hk]
/-- what is left of an opened block -/
def lft (L : Int) (p : List Pg) : List Pg := p.filter fun x => decide (L ≤ x.n)
theorem flt_p {e0 : Slot} (p : List Pg) (hl : p.length ≤ 1000) (h : gl[i]? = some (cO c)) (ho : c.o = .tup (p.map pgD)) :
    mComp [1] (iSeq (mFld "Cursor" "_opened" (mVar 0))) (tgName 1) c_Cursor__postings_1 (mVar 1) ⟨[.val (.ref i), .none], gl⟩ = .ok (.new (.lst ((lft c.L p).map pgD))) ⟨[.val (.ref i), .none], gl⟩ := by
  unfold cO at h
  refine comp_flt p pgD pgD _ (by simp [h, ho]) (by simp) rfl (by omega) fun x m => ⟨?_, fun _ => by simp⟩
  have ix : ∀ s, opIx s (.d (pgD x)) (.d (.int 0)) = .ok (.d (.int x.n)) s := fun s => q_ixT rfl
  simp [c_Cursor__postings_1, ix, h]
theorem postings_end (h : gl[i]? = some (cO c)) (hk : c.k = c.T.length) : f_Cursor__postings [.ref i] gl = .ok (.tup []) gl := by
  unfold cO at h
  simp [f_Cursor__postings, mDef, List.replicate, b_Cursor__postings, h, hk]
theorem postings_open (h : gl[i]? = some (cO c)) (hk : c.k ≠ c.T.length) (p : List Pg) (hl : p.length ≤ 1000) (ho : c.o = .tup (p.map pgD)) : f_Cursor__postings [.ref i] gl = .ok (.tup ((lft c.L p).map pgD)) gl := by
  have fl := flt_p (e0 := .none) p hl h ho
  unfold cO at h
  have e : ∀ s, opEq false s (.d (.int c.k)) (.d (.int c.T.length)) = .ok (.d (.bl false)) s := fun s => by rw [q_eqI, beq_false_of_ne hk]; rfl
  have e2 : ∀ s, opIsN false s (.d c.o) (.d .non) = .ok (.d (.bl false)) s := fun s => by rw [ho]; rfl
  generalize (lft c.L p).map pgD = R at fl ⊢
  simp [-q_eqI, -ap_Comp, f_Cursor__postings, mDef, List.replicate, b_Cursor__postings, h, e, e2, fl]
theorem postings_read (h : gl[i]? = some (cO c)) (hk : c.k ≠ c.T.length) (p : List Pg) (hl : p.length ≤ 1000) (ho : c.o = .non) {z : D} (hz : atI c.T c.k = some z) (hr : ∀ gl, f_read_block [.tup (IL c.dd), z] gl = .ok (.tup (p.map pgD)) gl) :
    f_Cursor__postings [.ref i] gl = .ok (.tup ((lft c.L p).map pgD)) (gl.set i (cO { c with o := .tup (p.map pgD), r := c.r + 1 })) := by
  have h2 : ∀ o', (gl.set i o')[i]? = some o' := fun o' => set_at h
  have fl := flt_p (e0 := .none) (gl := gl.set i (cO { c with o := .tup (p.map pgD), r := c.r + 1 })) p hl (h2 _) rfl
  unfold cO at h fl ⊢
  have e : ∀ s, opEq false s (.d (.int c.k)) (.d (.int c.T.length)) = .ok (.d (.bl false)) s := fun s => by rw [q_eqI, beq_false_of_ne hk]; rfl
  have e2 : ∀ s, opIsN false s (.d c.o) (.d .non) = .ok (.d (.bl true)) s := fun s => by rw [ho]; rfl
  have ix : ∀ s, opIx s (.d (.lst c.T)) (.d (.int c.k)) = .ok (.d z) s := fun s => q_ixL rfl hz
  generalize (lft c.L p).map pgD = R at fl ⊢
  simp [-q_eqI, -ap_Comp, f_Cursor__postings, mDef, List.replicate, b_Cursor__postings, h, e, e2, fl, ix, hr, h2, List.set_set]
/-- what the first of what is left tells -/
def numD : List Pg → D
  | [] => .non
  | x :: _ => .int x.n
def plsD : List Pg → D
  | [] => .tup []
  | x :: _ => .tup (IL x.ps)
theorem number_of {gl' : List MObj} {xs : List Pg} (h : gl[i]? = some (cO c)) (hp : f_Cursor__postings [.ref i] gl = .ok (.tup (xs.map pgD)) gl') : f_Cursor_number [.ref i] gl = .ok (numD xs) gl' := by
  unfold cO at h
  cases xs with
  | nil => simp [f_Cursor_number, mDef, List.replicate, b_Cursor_number, h, hp, as_d, asD, truthD, numD]
  | cons x xs =>
    have i1 : ∀ s, opIx s (.d (.tup (pgD x :: xs.map pgD))) (.d (.int 0)) = .ok (.d (pgD x)) s := fun s => q_ixT (atI_get (k := 0) rfl)
    have i2 : ∀ s, opIx s (.d (pgD x)) (.d (.int 0)) = .ok (.d (.int x.n)) s := fun s => q_ixT rfl
    simp [f_Cursor_number, mDef, List.replicate, b_Cursor_number, h, hp, as_d, asD, truthD, numD, i1, i2]
theorem places_of {gl' : List MObj} {xs : List Pg} (h : gl[i]? = some (cO c)) (hp : f_Cursor__postings [.ref i] gl = .ok (.tup (xs.map pgD)) gl') : f_Cursor_places [.ref i] gl = .ok (plsD xs) gl' := by
  unfold cO at h
  cases xs with
  | nil => simp [f_Cursor_places, mDef, List.replicate, b_Cursor_places, h, hp, as_d, asD, truthD, plsD]
  | cons x xs =>
    have i1 : ∀ s, opIx s (.d (.tup (pgD x :: xs.map pgD))) (.d (.int 0)) = .ok (.d (pgD x)) s := fun s => q_ixT (atI_get (k := 0) rfl)
    have i2 : ∀ s, opIx s (.d (pgD x)) (.d (.int 1)) = .ok (.d (.tup (IL x.ps))) s := fun s => q_ixT rfl
    simp [f_Cursor_places, mDef, List.replicate, b_Cursor_places, h, hp, as_d, asD, truthD, plsD, i1, i2]
theorem told_spec (h : gl[i]? = some (cO c)) {sz q t0 t1 t2 pl ln : Int} (hk0 : 0 ≤ c.k) (hk : c.k < c.T.length) (hz : atI c.T c.k = some (rowD sz q t0 t1 t2 pl ln)) : f_Cursor_block_told [.ref i] gl = .ok (.tup [.int t0, .int t1, .int t2]) gl := by
  unfold cO at h
  have e : ∀ s, opLt s (.d (.int c.k)) (.d (.int c.T.length)) = .ok (.d (.bl true)) s := fun s => by rw [q_lt, decide_eq_true hk]
  have ix : ∀ s, opIx s (.d (.lst c.T)) (.d (.int c.k)) = .ok (.d (rowD sz q t0 t1 t2 pl ln)) s := fun s => q_ixL rfl hz
  have i2 : ∀ s, opIx s (.d (rowD sz q t0 t1 t2 pl ln)) (.d (.int 2)) = .ok (.d (.tup [.int t0, .int t1, .int t2])) s := fun s => q_ixT rfl
  simp [-q_lt, f_Cursor_block_told, mDef, List.replicate, b_Cursor_block_told, h, e, ix, i2]
theorem told_end (h : gl[i]? = some (cO c)) (hk : c.k = c.T.length) : f_Cursor_block_told [.ref i] gl = .ok .non gl := by
  unfold cO at h
  simp [f_Cursor_block_told, mDef, List.replicate, b_Cursor_block_told, h, hk]
/-- what a row tells of its block -/
def Rw.t (z : Rw) : D := .tup [.int z.t0, .int z.t1, .int z.t2]
def fstD : List Rw → D
  | [] => .non
  | z :: _ => z.t
theorem from_spec (h : gl[i]? = some (cO c)) (l : List Rw) (hl : l.length ≤ 1000) (hT : c.T = l.map Rw.d) (n : Int) : f_Cursor_told_from [.ref i, .int n] gl = .ok (fstD (l.filter fun z => decide (n ≤ z.t0))) gl := by
  unfold cO at h
  have cm : mComp [3] (iSeq (mFld "Cursor" "_table" (mVar 0))) (tgName 3) c_Cursor_told_from_1 e_Cursor_told_from_2 ⟨[.val (.ref i), .val (.int n), .none, .none], gl⟩ = .ok (.new (.lst ((l.filter fun z => decide (n ≤ z.t0)).map Rw.t))) ⟨[.val (.ref i), .val (.int n), .none, .none], gl⟩ := by
    refine comp_flt l Rw.d Rw.t _ (by simp [h, hT]) (by simp) rfl (by omega) fun z m => ?_
    have i1 : ∀ s, opIx s (.d z.d) (.d (.int 2)) = .ok (.d z.t) s := fun s => q_ixT rfl
    have i2 : ∀ s, opIx s (.d z.t) (.d (.int 0)) = .ok (.d (.int z.t0)) s := fun s => q_ixT rfl
    exact ⟨by simp [c_Cursor_told_from_1, i1, i2], fun _ => by simp [e_Cursor_told_from_2, i1]⟩
  generalize (l.filter fun z => decide (n ≤ z.t0)) = R at cm ⊢
  cases R with
  | nil => simp [-ap_Comp, f_Cursor_told_from, mDef, List.replicate, b_Cursor_told_from, h, cm, as_new, asD, truthD, fstD]
  | cons z R =>
    have i1 : ∀ s, asLst s (.at 2) = some (z.t :: R.map Rw.t) → opIx s (.at 2) (.d (.int 0)) = .ok (.d z.t) s := fun s hs => q_ixL hs (atI_get (k := 0) rfl)
    rw [List.map_cons] at cm
    simp [-ap_Comp, f_Cursor_told_from, mDef, List.replicate, b_Cursor_told_from, h, cm, as_new, asD, truthD, fstD, i1, asLst]
/-- the block to which a seek leads -/
def skp (n : Int) (l : List Rw) (k : Nat) : Nat := k + ((l.drop k).takeWhile fun z => decide (z.t0 < n)).length
theorem skp_le (n : Int) (l : List Rw) (k : Nat) (hk : k ≤ l.length) : skp n l k ≤ l.length := by
  unfold skp
  have := (List.takeWhile_sublist (fun z : Rw => decide (z.t0 < n)) (l := l.drop k)).length_le
  rw [List.length_drop] at this
  omega
theorem skp_stop {n : Int} {l : List Rw} {k : Nat} {z : Rw} (h : l[k]? = some z) (hz : ¬ z.t0 < n) : skp n l k = k := by
  unfold skp
  rw [List.drop_eq_getElem?_toList_append, h]
  simp [hz]
theorem skp_next {n : Int} {l : List Rw} {k : Nat} {z : Rw} (h : l[k]? = some z) (hz : z.t0 < n) : skp n l k = skp n l (k + 1) := by
  unfold skp
  rw [List.drop_eq_getElem?_toList_append, h]
  simp [hz]
  omega
theorem skp_end (n : Int) (l : List Rw) : skp n l l.length = l.length := by simp [skp]
theorem seek_loop (h : gl[i]? = some (cO c)) (l : List Rw) (hl : l.length ≤ 1000) (hT : c.T = l.map Rw.d) (n : Int) : ∀ (m k : Nat), k + m = l.length → ∃ N, whileGo t_Cursor_seek_1 l_Cursor_seek_2 N ⟨[.val (.ref i), .val (.int n), .val (.int k)], gl⟩ = .ok .nx ⟨[.val (.ref i), .val (.int n), .val (.int (skp n l k : Nat))], gl⟩
  | 0, k, hk => by
    obtain rfl : k = l.length := by omega
    rw [skp_end]
    unfold cO at h
    refine wh_stop ?_
    simp [t_Cursor_seek_1, h, hT]
  | m + 1, k, hk => by
    have hkl : k < l.length := by omega
    obtain ⟨z, hz⟩ : ∃ z, l[k]? = some z := ⟨_, List.getElem?_eq_getElem hkl⟩
    have ix : ∀ s, opIx s (.d (.lst c.T)) (.d (.int k)) = .ok (.d z.d) s := fun s => q_ixL rfl (atI_get (by rw [hT, List.getElem?_map, hz]; rfl))
    have i1 : ∀ s, opIx s (.d z.d) (.d (.int 2)) = .ok (.d z.t) s := fun s => q_ixT rfl
    have i2 : ∀ s, opIx s (.d z.t) (.d (.int 0)) = .ok (.d (.int z.t0)) s := fun s => q_ixT rfl
    have ln : c.T.length = l.length := by rw [hT, List.length_map]
    by_cases hs : z.t0 < n
    · obtain ⟨N, w⟩ := seek_loop h l hl hT n m (k + 1) (by omega)
      unfold cO at h
      refine wh_step (s1 := ⟨[.val (.ref i), .val (.int n), .val (.int k)], gl⟩) ?_ ?_ ⟨N, by rw [skp_next hz hs]; exact w⟩
      · simp [t_Cursor_seek_1, h, ix, i1, i2, hs, ln, hkl]
      · simp [l_Cursor_seek_2, as_d, asInt]
    · rw [skp_stop hz hs]
      unfold cO at h
      refine wh_stop ?_
      simp [t_Cursor_seek_1, h, ix, i1, i2, hs, ln, hkl]
theorem seek_spec (h : gl[i]? = some (cO c)) (l : List Rw) (hl : l.length ≤ 1000) (hT : c.T = l.map Rw.d) (n : Int) (k : Nat) (hk : c.k = k) (hkl : k ≤ l.length) :
    f_Cursor_seek [.ref i, .int n] gl = .ok .non (gl.set i (cO { c with k := (skp n l k : Nat), L := maxI n c.L, o := if skp n l k = k then c.o else .non })) := by
  have w := wh_done (seek_loop h l hl hT n (l.length - k) k (by omega)) (by simp)
  have en := enter_spec h (skp n l k : Nat) (maxI n c.L)
  have e2 : (if ((skp n l k : Nat) : Int) = c.k then c.o else D.non) = if skp n l k = k then c.o else .non := by rw [hk]; simp only [Int.natCast_inj]
  rw [e2] at en
  unfold cO at h
  simp [f_Cursor_seek, mDef, List.replicate, b_Cursor_seek, h, hk, as_d, w, en]
theorem next_none {gl' : List MObj} (h : gl[i]? = some (cO c)) (hn : f_Cursor_number [.ref i] gl = .ok .non gl') : f_Cursor_next [.ref i] gl = .ok .non gl' := by
  unfold cO at h
  have e : ∀ s, opIsN true s (.d .non) (.d .non) = .ok (.d (.bl false)) s := fun s => rfl
  simp [f_Cursor_next, mDef, List.replicate, b_Cursor_next, h, hn, as_d, e]
theorem next_some {gl' gl2 : List MObj} {c' : Cs} {n : Int} (h : gl[i]? = some (cO c)) (hn : f_Cursor_number [.ref i] gl = .ok (.int n) gl') (h' : gl'[i]? = some (cO c')) (hs : f_Cursor_seek [.ref i, .int (n + 1)] gl' = .ok .non gl2) : f_Cursor_next [.ref i] gl = .ok .non gl2 := by
  unfold cO at h h'
  have e : ∀ s, opIsN true s (.d (.int n)) (.d .non) = .ok (.d (.bl true)) s := fun s => rfl
  simp [f_Cursor_next, mDef, List.replicate, b_Cursor_next, h, hn, as_d, e, h', hs]
end
end K21
/-! # k21: where a cursor stands; blocks by index -/
namespace K21
open PySem PySem.Spec PyProof.Rows L2 MI
theorem init_spec (d : List Int) (many : Int) (T : List D) (ht : ∀ gl, f_read_table [.tup (IL d)] gl = .ok (.tup [.int many, .lst T]) gl) {i : Nat} {gl : List MObj} (h : gl[i]? = some (.ins "Cursor" [])) :
    f_Cursor___init__ [.ref i, .tup (IL d)] gl = .ok .non (gl.set i (cO ⟨d, many, T, 0, 0, .non, 0⟩)) := by
  have h2 : ∀ o', (gl.set i o')[i]? = some o' := fun o' => set_at h
  have p1 : putD "_data" (.tup (IL d)) [] = (csF ⟨d, many, T, 0, 0, .non, 0⟩).take 1 := rfl
  have p2 : putD "_many" (.int many) ((csF ⟨d, many, T, 0, 0, .non, 0⟩).take 1) = (csF ⟨d, many, T, 0, 0, .non, 0⟩).take 2 := rfl
  have p3 : putD "_table" (.lst T) ((csF ⟨d, many, T, 0, 0, .non, 0⟩).take 2) = (csF ⟨d, many, T, 0, 0, .non, 0⟩).take 3 := rfl
  have p4 : putD "_block" (.int 0) ((csF ⟨d, many, T, 0, 0, .non, 0⟩).take 3) = (csF ⟨d, many, T, 0, 0, .non, 0⟩).take 4 := rfl
  have p5 : putD "_least" (.int 0) ((csF ⟨d, many, T, 0, 0, .non, 0⟩).take 4) = (csF ⟨d, many, T, 0, 0, .non, 0⟩).take 5 := rfl
  have p6 : putD "_opened" .non ((csF ⟨d, many, T, 0, 0, .non, 0⟩).take 5) = (csF ⟨d, many, T, 0, 0, .non, 0⟩).take 6 := rfl
  have p7 : putD "_read" (.int 0) ((csF ⟨d, many, T, 0, 0, .non, 0⟩).take 6) = csF ⟨d, many, T, 0, 0, .non, 0⟩ := rfl
  have l1 : ((csF ⟨d, many, T, 0, 0, .non, 0⟩).take 1).length = 1 := rfl
  have l2 : ((csF ⟨d, many, T, 0, 0, .non, 0⟩).take 2).length = 2 := rfl
  have l3 : ((csF ⟨d, many, T, 0, 0, .non, 0⟩).take 3).length = 3 := rfl
  have l4 : ((csF ⟨d, many, T, 0, 0, .non, 0⟩).take 4).length = 4 := rfl
  have l5 : ((csF ⟨d, many, T, 0, 0, .non, 0⟩).take 5).length = 5 := rfl
  have l6 : ((csF ⟨d, many, T, 0, 0, .non, 0⟩).take 6).length = 6 := rfl
  unfold cO
  generalize (csF ⟨d, many, T, 0, 0, .non, 0⟩).take 1 = F1 at *
  generalize (csF ⟨d, many, T, 0, 0, .non, 0⟩).take 2 = F2 at *
  generalize (csF ⟨d, many, T, 0, 0, .non, 0⟩).take 3 = F3 at *
  generalize (csF ⟨d, many, T, 0, 0, .non, 0⟩).take 4 = F4 at *
  generalize (csF ⟨d, many, T, 0, 0, .non, 0⟩).take 5 = F5 at *
  generalize (csF ⟨d, many, T, 0, 0, .non, 0⟩).take 6 = F6 at *
  generalize csF ⟨d, many, T, 0, 0, .non, 0⟩ = F at *
  generalize IL d = I at *
  simp [f_Cursor___init__, mDef, List.replicate, b_Cursor___init__, h, h2, ht, p1, p2, p3, p4, p5, p6, p7, l1, l2, l3, l4, l5, l6, List.set_set]
theorem parts_get (b : Nat) (hb : 0 < b) : ∀ (xs : List Pg) (k : Nat), (parts b xs)[k]? = if k * b < xs.length then some ((xs.drop (k * b)).take b) else none := by
  refine parts_ind b hb ?_ fun rem hne ih => ?_
  · intro k
    rw [parts_nil]
    simp
  · intro k
    have hp := List.length_pos_iff.mpr hne
    rw [parts_cons hne hb]
    cases k with
    | zero => simp [hp]
    | succ k =>
      rw [List.getElem?_cons_succ, ih k, List.length_drop, List.drop_drop]
      have e : (k + 1) * b = b + k * b := by rw [Nat.add_mul]; omega
      rw [e]
      by_cases z : k * b < rem.length - b
      · rw [if_pos z, if_pos (by omega)]
      · rw [if_neg z, if_neg (by omega)]
/-- ascending -/
theorem asc_get : ∀ {xs : List Pg} {q : Int}, AscI q (xs.map (·.n)) → ∀ {i j : Nat} {x y : Pg}, i < j → xs[i]? = some x → xs[j]? = some y → x.n < y.n := by
  intro xs q h i j x y hij hx hy
  have pw := (ascI_pw h).2
  rw [List.pairwise_iff_getElem] at pw
  obtain ⟨h1, e1⟩ := List.getElem?_eq_some_iff.mp hx
  obtain ⟨h2, e2⟩ := List.getElem?_eq_some_iff.mp hy
  have := pw i j (by simpa using h1) (by simpa using h2) hij
  simpa [e1, e2] using this
/-- what stands for good of a run -/
structure Fx2 (xs : List Pg) (b : Nat) (l : List Rw) : Prop where
  hb : 0 < b
  hp : l.map (·.p) = parts b xs
  hg : ∀ z ∈ l, RwG z
  asc : AscI (-1) (xs.map (·.n))
  few : xs.length ≤ 1000
section
variable {xs : List Pg} {b : Nat} {l : List Rw}
theorem Fx2.len (F : Fx2 xs b l) : l.length = (parts b xs).length := by rw [← F.hp, List.length_map]
theorem Fx2.few2 (F : Fx2 xs b l) : l.length ≤ 1000 := by
  have := parts_fewer b F.hb xs
  have := F.few
  rw [F.len]
  omega
theorem Fx2.get (F : Fx2 xs b l) {k : Nat} {z : Rw} (h : l[k]? = some z) : k * b < xs.length ∧ z.p = (xs.drop (k * b)).take b := by
  have e : (parts b xs)[k]? = some z.p := by rw [← F.hp, List.getElem?_map, h]; rfl
  rw [parts_get b F.hb] at e
  split at e
  · rename_i hh; exact ⟨hh, (Option.some.inj e).symm⟩
  · cases e
theorem Fx2.has (F : Fx2 xs b l) {k : Nat} (h : k * b < xs.length) : ∃ z, l[k]? = some z := by
  have e := parts_get b F.hb xs k
  rw [if_pos h] at e
  have : k < (parts b xs).length := (List.getElem?_eq_some_iff.mp e).1
  exact ⟨_, List.getElem?_eq_getElem (by rw [F.len]; exact this)⟩
/-- a block's last one by index -/
theorem Fx2.last (F : Fx2 xs b l) {k : Nat} {z : Rw} (h : l[k]? = some z) : ∃ i x, xs[i]? = some x ∧ z.t0 = x.n ∧ k * b ≤ i ∧ i < k * b + b ∧ (i + 1 = k * b + b ∨ i + 1 = xs.length) := by
  obtain ⟨h1, h2⟩ := F.get h
  have g := F.hg z (List.mem_of_getElem? h)
  have hl : z.p.length = min b (xs.length - k * b) := by rw [h2, List.length_take, List.length_drop]
  have hb := F.hb
  obtain ⟨q, x, e⟩ : ∃ q x, z.p = q ++ [x] := by
    rcases List.eq_nil_or_concat z.p with e | ⟨q, x, e⟩
    · exact absurd e g.1
    · exact ⟨q, x, by rw [e, List.concat_eq_append]⟩
  have hq : q.length + 1 = z.p.length := by rw [e]; simp
  refine ⟨k * b + q.length, x, ?_, ?_, by omega, by omega, by omega⟩
  · have : z.p[q.length]? = some x := by rw [e]; simp
    rw [h2, List.getElem?_take_of_lt (by omega), List.getElem?_drop] at this
    exact this
  · rw [g.2.2.1, e, lastN_app]
theorem skp_eq {n : Int} : ∀ (m k k' : Nat), k + m = k' → k' ≤ l.length → (∀ j z, k ≤ j → j < k' → l[j]? = some z → z.t0 < n) → (∀ z, l[k']? = some z → ¬ z.t0 < n) → skp n l k = k'
  | 0, k, k', e, hl, h1, h2 => by
    obtain rfl : k = k' := by omega
    cases q : l[k]? with
    | none =>
      have := List.getElem?_eq_none_iff.mp q
      obtain rfl : k = l.length := by omega
      exact skp_end n l
    | some z => exact skp_stop q (h2 z q)
  | m + 1, k, k', e, hl, h1, h2 => by
    have hk : k < l.length := by omega
    have q : l[k]? = some l[k] := List.getElem?_eq_getElem hk
    rw [skp_next q (h1 k _ (Nat.le_refl _) (by omega) q)]
    exact skp_eq m (k + 1) k' (by omega) hl (fun j z a => h1 j z (by omega)) h2
/-- where a seek leads to in the list -/
def sk (n : Int) (xs : List Pg) (a : Nat) : Nat := a + ((xs.drop a).takeWhile fun x => decide (x.n < n)).length
theorem sk_stop {n : Int} {a : Nat} {x : Pg} (h : xs[a]? = some x) (hz : ¬ x.n < n) : sk n xs a = a := by
  unfold sk
  rw [List.drop_eq_getElem?_toList_append, h]
  simp [hz]
theorem sk_next {n : Int} {a : Nat} {x : Pg} (h : xs[a]? = some x) (hz : x.n < n) : sk n xs a = sk n xs (a + 1) := by
  unfold sk
  rw [List.drop_eq_getElem?_toList_append, h]
  simp [hz]
  omega
theorem sk_end (n : Int) (xs : List Pg) : sk n xs xs.length = xs.length := by simp [sk]
theorem sk_all {n : Int} : ∀ (m a : Nat), a + m = xs.length → a ≤ sk n xs a ∧ sk n xs a ≤ xs.length ∧ (∀ i x, a ≤ i → i < sk n xs a → xs[i]? = some x → x.n < n) ∧ ∀ x, xs[sk n xs a]? = some x → ¬ x.n < n
  | 0, a, e => by
    obtain rfl : a = xs.length := by omega
    rw [sk_end]
    exact ⟨Nat.le_refl _, Nat.le_refl _, fun i x h1 h2 => by omega, fun x h => by simp at h⟩
  | m + 1, a, e => by
    have ha : a < xs.length := by omega
    have q : xs[a]? = some xs[a] := List.getElem?_eq_getElem ha
    by_cases z : xs[a].n < n
    · obtain ⟨i1, i2, i3, i4⟩ := sk_all (n := n) m (a + 1) (by omega)
      rw [sk_next q z]
      refine ⟨by omega, i2, fun i x h1 h2 h3 => ?_, i4⟩
      by_cases y : i = a
      · subst y; rw [q] at h3; cases h3; exact z
      · exact i3 i x (by omega) h2 h3
    · rw [sk_stop q z]
      refine ⟨Nat.le_refl _, by omega, fun i x h1 h2 => by omega, fun x h => ?_⟩
      rw [q] at h
      cases h
      exact z
/-- the block in which a place is -/
def kk (b : Nat) (xs : List Pg) (l : List Rw) (a : Nat) : Nat := if a < xs.length then a / b else l.length
theorem Fx2.kk_le (F : Fx2 xs b l) (a : Nat) : kk b xs l a ≤ l.length := by
  unfold kk
  split
  · rename_i h
    obtain ⟨z, hz⟩ := F.has (k := a / b) (by have := Nat.div_mul_le_self a b; omega)
    exact Nat.le_of_lt (List.getElem?_eq_some_iff.mp hz).1
  · exact Nat.le_refl _
theorem Fx2.seek (F : Fx2 xs b l) (n : Int) (a : Nat) (ha : a ≤ xs.length) : skp n l (kk b xs l a) = kk b xs l (sk n xs a) ∧ kk b xs l a ≤ kk b xs l (sk n xs a) := by
  have hb := F.hb
  rcases Nat.lt_or_eq_of_le ha with h | h
  · obtain ⟨s1, s2, s3, s4⟩ := sk_all (xs := xs) (n := n) (xs.length - a) a (by omega)
    have k0 : kk b xs l a = a / b := if_pos h
    have ab : a < a / b * b + b := by have := Nat.lt_div_mul_add (a := a) hb; omega
    rw [k0]
    by_cases h2 : sk n xs a < xs.length
    · have k1 : kk b xs l (sk n xs a) = sk n xs a / b := if_pos h2
      have hle : a / b ≤ sk n xs a / b := Nat.div_le_div_right s1
      have hk1 : sk n xs a / b * b ≤ sk n xs a := Nat.div_mul_le_self _ _
      refine ⟨?_, by rw [k1]; exact hle⟩
      rw [k1]
      obtain ⟨zz, hzz⟩ := F.has (k := sk n xs a / b) (by omega)
      refine skp_eq (sk n xs a / b - a / b) _ _ (by omega) (Nat.le_of_lt (List.getElem?_eq_some_iff.mp hzz).1) (fun j z j1 j2 hz => ?_) (fun z hz => ?_)
      · obtain ⟨i, x, e1, e2, e3, e4, e5⟩ := F.last hz
        have m1 : (j + 1) * b ≤ sk n xs a / b * b := Nat.mul_le_mul_right b (by omega)
        have m2 : a / b * b ≤ j * b := Nat.mul_le_mul_right b j1
        rw [Nat.add_mul] at m1
        rw [e2]
        exact s3 i x (by omega) (by omega) e1
      · obtain ⟨i, x, e1, e2, e3, e4, e5⟩ := F.last hz
        have m3 : sk n xs a < sk n xs a / b * b + b := by have := Nat.lt_div_mul_add (a := sk n xs a) hb; omega
        have q : xs[sk n xs a]? = some xs[sk n xs a] := List.getElem?_eq_getElem h2
        have nn := s4 _ q
        rw [e2]
        rcases Nat.lt_or_ge (sk n xs a) i with y | y
        · have := asc_get F.asc y q e1
          omega
        · obtain rfl : i = sk n xs a := by omega
          rw [q] at e1
          cases e1
          exact nn
    · have e : sk n xs a = xs.length := by omega
      have k1 : kk b xs l (sk n xs a) = l.length := if_neg h2
      rw [k1]
      have hkl : a / b ≤ l.length := by have := F.kk_le a; rwa [k0] at this
      refine ⟨skp_eq (l.length - a / b) _ _ (by omega) (Nat.le_refl _) (fun j z j1 j2 hz => ?_) (fun z hz => by simp at hz), hkl⟩
      obtain ⟨i, x, e1, e2, e3, e4, e5⟩ := F.last hz
      have m2 : a / b * b ≤ j * b := Nat.mul_le_mul_right b j1
      rw [e2]
      have hi := (List.getElem?_eq_some_iff.mp e1).1
      exact s3 i x (by omega) (by omega) e1
  · subst h
    rw [sk_end]
    have k0 : kk b xs l xs.length = l.length := if_neg (Nat.lt_irrefl _)
    rw [k0, skp_end]
    exact ⟨rfl, Nat.le_refl _⟩
end
end K21
/-! # k21: a course's steps, by the list and by a cursor -/
namespace K21
open PySem PySem.Spec PyProof.Rows L2 MI
inductive W7 where
  | number | places | next | seek | told | from_ | count
  deriving DecidableEq
def W7.s : W7 → Str
  | .number => "number"
  | .places => "places"
  | .next => "next"
  | .seek => "seek"
  | .told => "told"
  | .from_ => "from"
  | .count => "count"
def W7.asks : W7 → Bool
  | .number => true
  | .places => true
  | .next => true
  | _ => false
theorem eqW (s : S) (w v : W7) : opEq false s (.d (.str w.s)) (.d (.str v.s)) = .ok (.d (.bl (decide (w = v)))) s := by
  cases w <;> cases v <;> rfl
structure St where
  a : Nat
  seen : List Nat
def ask (b : Nat) (xs : List Pg) (s : St) : List Nat := if s.a < xs.length ∧ s.a / b ∉ s.seen then s.seen ++ [s.a / b] else s.seen
def stepA (xs : List Pg) (n : Int) (a : Nat) : W7 → Nat
  | .next => if a < xs.length then a + 1 else a
  | .seek => sk n xs a
  | _ => a
def stepS (b : Nat) (xs : List Pg) (w : W7) (s : St) : List Nat := if w.asks = true then ask b xs s else s.seen
def stepT (b : Nat) (xs : List Pg) (l : List Rw) (w : W7) (n : Int) (s : St) : St := ⟨stepA xs n s.a w, stepS b xs w s⟩
def rowT (l : List Rw) (k : Nat) : D := match l[k]? with
  | some z => z.t
  | none => .non
def stepD (b : Nat) (xs : List Pg) (l : List Rw) (n : Int) (a : Nat) : W7 → D
  | .number => numD (xs.drop a)
  | .places => plsD (xs.drop a)
  | .told => if a < xs.length then rowT l (a / b) else .non
  | .from_ => fstD (l.filter fun z => decide (n ≤ z.t0))
  | .count => .int (xs.length : Nat)
  | _ => .non
def runG (b : Nat) (xs : List Pg) (l : List Rw) : List (W7 × Int) → St → List D
  | [], _ => []
  | (w, n) :: r, s => stepD b xs l n s.a w :: .int ((stepS b xs w s).length : Nat) :: runG b xs l r (stepT b xs l w n s)
def runS (b : Nat) (xs : List Pg) (l : List Rw) : List (W7 × Int) → St → St
  | [], s => s
  | (w, n) :: r, s => runS b xs l r (stepT b xs l w n s)
theorem ask_sub {b : Nat} {xs : List Pg} {s : St} : ∀ j ∈ s.seen, j ∈ ask b xs s := fun j m => by
  unfold ask
  split
  · exact List.mem_append_left _ m
  · exact m
theorem stepS_sub {b : Nat} {xs : List Pg} {w : W7} {s : St} : ∀ j ∈ s.seen, j ∈ stepS b xs w s := fun j m => by
  unfold stepS
  split
  · exact ask_sub j m
  · exact m
theorem runS_sub {b : Nat} {xs : List Pg} {l : List Rw} : ∀ (r : List (W7 × Int)) (s : St), ∀ j ∈ s.seen, j ∈ (runS b xs l r s).seen
  | [], _ => fun j m => m
  | (w, n) :: r, s => fun j m => runS_sub r _ j (stepS_sub j m)
theorem runG_len {b : Nat} {xs : List Pg} {l : List Rw} : ∀ (r : List (W7 × Int)) (s : St), (runG b xs l r s).length = 2 * r.length
  | [], _ => rfl
  | (w, n) :: r, s => by rw [runG, List.length_cons, List.length_cons, runG_len r, List.length_cons]; omega
/-- the blocks that can be read -/
def Rdb (d : List Int) (l : List Rw) (j : Nat) : Prop := ∀ z, l[j]? = some z → ∀ gl, f_read_block [.tup (IL d), z.d] gl = .ok (.tup (z.p.map pgD)) gl
def opD (l : List Rw) (k : Nat) : D := match l[k]? with
  | some z => .tup (z.p.map pgD)
  | none => .non
structure Rel (b : Nat) (xs : List Pg) (l : List Rw) (d : List Int) (s : St) (c : Cs) : Prop where
  dd : c.dd = d
  many : c.many = (xs.length : Nat)
  T : c.T = l.map Rw.d
  k : c.k = (kk b xs l s.a : Nat)
  lo : ∀ i x, i < s.a → xs[i]? = some x → x.n < c.L
  up : ∀ x, xs[s.a]? = some x → c.L ≤ x.n
  o : c.o = if kk b xs l s.a ∈ s.seen then opD l (kk b xs l s.a) else .non
  r : c.r = (s.seen.length : Nat)
  seen : ∀ j ∈ s.seen, j ≤ kk b xs l s.a ∧ j < l.length
  a : s.a ≤ xs.length
section
variable {xs : List Pg} {b : Nat} {l : List Rw} {d : List Int} {s : St} {c : Cs} {i : Nat} {gl : List MObj}
theorem lft_head {L : Int} {a k0 : Nat} {x : Pg} (hb : 0 < b) (hx : xs[a]? = some x) (h1 : k0 ≤ a) (h2 : a < k0 + b) (lo : ∀ i y, i < a → xs[i]? = some y → y.n < L) (up : L ≤ x.n) : ∃ R, lft L ((xs.drop k0).take b) = x :: R := by
  have e : (xs.drop k0).take b = (xs.drop k0).take (a - k0) ++ x :: ((xs.drop k0).drop (a - k0 + 1)).take (b - (a - k0) - 1) := by
    have hx' : (xs.drop k0)[a - k0]? = some x := by rw [List.getElem?_drop, show k0 + (a - k0) = a by omega]; exact hx
    have e1 : xs.drop k0 = (xs.drop k0).take (a - k0) ++ (xs.drop k0).drop (a - k0) := (List.take_append_drop _ _).symm
    have hl := (List.getElem?_eq_some_iff.mp hx').1
    have e2 : (xs.drop k0).drop (a - k0) = x :: (xs.drop k0).drop (a - k0 + 1) := by
      rw [List.drop_eq_getElem_cons hl]
      congr 1
      exact (List.getElem?_eq_some_iff.mp hx').2
    have l1 : ((xs.drop k0).take (a - k0)).length = a - k0 := by rw [List.length_take]; omega
    conv => lhs; rw [e1, List.take_append, l1, e2]
    rw [List.take_of_length_le (by rw [l1]; omega), show b - (a - k0) = (b - (a - k0) - 1) + 1 by omega, List.take_succ_cons]
    simp
  rw [e]
  unfold lft
  rw [List.filter_append]
  have z : ((xs.drop k0).take (a - k0)).filter (fun x => decide (L ≤ x.n)) = [] := by
    rw [List.filter_eq_nil_iff]
    intro y my
    obtain ⟨j, hj⟩ := List.mem_iff_getElem?.mp my
    have hjl := (List.getElem?_eq_some_iff.mp hj).1
    rw [List.length_take] at hjl
    rw [List.getElem?_take_of_lt (by omega), List.getElem?_drop] at hj
    have := lo _ y (by omega) hj
    simp
    omega
  rw [z, List.filter_cons_of_pos (by simpa using up)]
  exact ⟨_, rfl⟩
theorem numD_drop {a : Nat} {x : Pg} (hx : xs[a]? = some x) : numD (xs.drop a) = .int x.n ∧ plsD (xs.drop a) = .tup (IL x.ps) := by
  have hl := (List.getElem?_eq_some_iff.mp hx).1
  rw [List.drop_eq_getElem_cons hl, (List.getElem?_eq_some_iff.mp hx).2]
  exact ⟨rfl, rfl⟩
/-- asked: the block is opened -/
theorem Rel.ask (F : Fx2 xs b l) (R : Rel b xs l d s c) (h : gl[i]? = some (cO c)) (hr : ∀ j ∈ ask b xs s, Rdb d l j) :
    ∃ ys c', f_Cursor__postings [.ref i] gl = .ok (.tup (ys.map pgD)) (gl.set i (cO c')) ∧ numD ys = numD (xs.drop s.a) ∧ plsD ys = plsD (xs.drop s.a) ∧ Rel b xs l d ⟨s.a, K21.ask b xs s⟩ c' := by
  have hgs : gl.set i (cO c) = gl := by
    obtain ⟨h1, h2⟩ := List.getElem?_eq_some_iff.mp h
    rw [← h2]
    exact List.set_getElem_self h1
  have hTl : c.T.length = l.length := by rw [R.T, List.length_map]
  by_cases ha : s.a < xs.length
  · have k0 : kk b xs l s.a = s.a / b := if_pos ha
    have hb := F.hb
    have ab : s.a < s.a / b * b + b := by have := Nat.lt_div_mul_add (a := s.a) hb; omega
    have ab2 : s.a / b * b ≤ s.a := Nat.div_mul_le_self _ _
    obtain ⟨z, hz⟩ := F.has (k := s.a / b) (by omega)
    obtain ⟨g1, g2⟩ := F.get hz
    have hzl := (List.getElem?_eq_some_iff.mp hz).1
    have hx : xs[s.a]? = some xs[s.a] := List.getElem?_eq_getElem ha
    obtain ⟨Rr, hR⟩ := lft_head hb hx ab2 ab R.lo (R.up _ hx)
    rw [← g2] at hR
    obtain ⟨n1, n2⟩ := numD_drop hx
    have hk : c.k ≠ c.T.length := by rw [R.k, hTl, k0]; omega
    have zl : z.p.length ≤ 1000 := by rw [g2, List.length_take, List.length_drop]; have := F.few; omega
    have op : opD l (s.a / b) = .tup (z.p.map pgD) := by unfold opD; rw [hz]
    by_cases hs : s.a / b ∈ s.seen
    · have ea : K21.ask b xs s = s.seen := if_neg fun q => q.2 hs
      have ho : c.o = .tup (z.p.map pgD) := by rw [R.o, k0, if_pos hs, op]
      refine ⟨lft c.L z.p, c, by rw [hgs]; exact postings_open h hk z.p zl ho, by rw [hR, n1]; rfl, by rw [hR, n2]; rfl, ?_⟩
      rw [ea]
      exact R
    · have ea : K21.ask b xs s = s.seen ++ [s.a / b] := if_pos ⟨ha, hs⟩
      have ho : c.o = .non := by rw [R.o, k0, if_neg hs]
      have rd := hr (s.a / b) (by rw [ea]; simp) z hz
      rw [← R.dd] at rd
      have at1 : atI c.T c.k = some z.d := by rw [R.T, R.k, k0]; exact atI_get (by rw [List.getElem?_map, hz]; rfl)
      refine ⟨lft c.L z.p, _, postings_read h hk z.p zl ho at1 rd, by rw [hR, n1]; rfl, by rw [hR, n2]; rfl, ?_⟩
      rw [ea]
      refine ⟨R.dd, R.many, R.T, R.k, R.lo, R.up, ?_, ?_, fun j m => ?_, R.a⟩
      · show D.tup (z.p.map pgD) = if kk b xs l s.a ∈ s.seen ++ [s.a / b] then opD l (kk b xs l s.a) else .non
        rw [k0, if_pos (by simp), op]
      · show c.r + 1 = ((s.seen ++ [s.a / b]).length : Nat)
        rw [R.r, List.length_append]
        simp
      · rcases List.mem_append.mp m with m | m
        · exact R.seen j m
        · rw [List.mem_singleton.mp m]
          show s.a / b ≤ kk b xs l s.a ∧ _
          rw [k0]
          exact ⟨Nat.le_refl _, hzl⟩
  · have ea : K21.ask b xs s = s.seen := if_neg fun q => ha q.1
    have k0 : kk b xs l s.a = l.length := if_neg ha
    have dr : xs.drop s.a = [] := List.drop_eq_nil_of_le (by omega)
    refine ⟨[], c, by rw [hgs]; exact postings_end h (by rw [R.k, hTl, k0]), by rw [dr], by rw [dr], ?_⟩
    rw [ea]
    exact R
theorem Rel.sought (F : Fx2 xs b l) (R : Rel b xs l d s c) (h : gl[i]? = some (cO c)) (n : Int) : ∃ c', f_Cursor_seek [.ref i, .int n] gl = .ok .non (gl.set i (cO c')) ∧ Rel b xs l d ⟨sk n xs s.a, s.seen⟩ c' := by
  have sp := seek_spec h l F.few2 R.T n (kk b xs l s.a) R.k (F.kk_le _)
  obtain ⟨e1, e2⟩ := F.seek n s.a R.a
  obtain ⟨s1, s2, s3, s4⟩ := sk_all (xs := xs) (n := n) (xs.length - s.a) s.a (by have := R.a; omega)
  rw [e1] at sp
  have mx : ∀ x y : Int, x ≤ maxI x y ∧ y ≤ maxI x y := fun x y => by unfold maxI; split <;> omega
  refine ⟨_, sp, R.dd, R.many, R.T, rfl, fun j x hj hx => ?_, fun x hx => ?_, ?_, R.r, fun j m => ?_, s2⟩
  · show x.n < maxI n c.L
    have m := mx n c.L
    by_cases q : j < s.a
    · have := R.lo j x q hx; omega
    · have := s3 j x (by omega) hj hx; omega
  · show maxI n c.L ≤ x.n
    have q1 := s4 x hx
    have q2 : c.L ≤ x.n := by
      rcases Nat.lt_or_eq_of_le s1 with q | q
      · have hl := (List.getElem?_eq_some_iff.mp hx).1
        have hy : xs[s.a]? = some xs[s.a] := List.getElem?_eq_getElem (by omega)
        have := R.up _ hy
        have := asc_get F.asc q hy hx
        omega
      · exact R.up x (by rw [q]; exact hx)
    unfold maxI
    split <;> omega
  · show (if kk b xs l (sk n xs s.a) = kk b xs l s.a then c.o else .non) = _
    by_cases q : kk b xs l (sk n xs s.a) = kk b xs l s.a
    · rw [if_pos q, R.o]
      simp only [q]
    · rw [if_neg q, if_neg]
      intro m
      have t : kk b xs l (sk n xs s.a) ≤ kk b xs l s.a := (R.seen _ m).1
      exact q (by omega)
  · have := R.seen j m
    exact ⟨by have := this.1; show j ≤ kk b xs l (sk n xs s.a); omega, this.2⟩
end
end K21
/-! # k21: what a cursor tells in a course -/
namespace K21
open PySem PySem.Spec PyProof.Rows L2 MI
def stD (z : W7 × Int) : D := .tup [.str z.1.s, .int z.2]
section
variable {xs : List Pg} {b : Nat} {l : List Rw} {d : List Int} {s : St} {c : Cs} {i : Nat} {gl : List MObj}
theorem Rel.number (F : Fx2 xs b l) (R : Rel b xs l d s c) (h : gl[i]? = some (cO c)) (hr : ∀ j ∈ K21.ask b xs s, Rdb d l j) : ∃ c', f_Cursor_number [.ref i] gl = .ok (numD (xs.drop s.a)) (gl.set i (cO c')) ∧ Rel b xs l d ⟨s.a, K21.ask b xs s⟩ c' := by
  obtain ⟨ys, c', p, n1, n2, R'⟩ := R.ask F h hr
  exact ⟨c', by rw [← n1]; exact number_of h p, R'⟩
theorem Rel.places (F : Fx2 xs b l) (R : Rel b xs l d s c) (h : gl[i]? = some (cO c)) (hr : ∀ j ∈ K21.ask b xs s, Rdb d l j) : ∃ c', f_Cursor_places [.ref i] gl = .ok (plsD (xs.drop s.a)) (gl.set i (cO c')) ∧ Rel b xs l d ⟨s.a, K21.ask b xs s⟩ c' := by
  obtain ⟨ys, c', p, n1, n2, R'⟩ := R.ask F h hr
  exact ⟨c', by rw [← n2]; exact places_of h p, R'⟩
theorem Rel.next (F : Fx2 xs b l) (R : Rel b xs l d s c) (h : gl[i]? = some (cO c)) (hr : ∀ j ∈ K21.ask b xs s, Rdb d l j) : ∃ c', f_Cursor_next [.ref i] gl = .ok .non (gl.set i (cO c')) ∧ Rel b xs l d ⟨if s.a < xs.length then s.a + 1 else s.a, K21.ask b xs s⟩ c' := by
  obtain ⟨c1, p, R1⟩ := R.number F h hr
  have h1 : (gl.set i (cO c1))[i]? = some (cO c1) := set_at h
  by_cases ha : s.a < xs.length
  · have hx : xs[s.a]? = some xs[s.a] := List.getElem?_eq_getElem ha
    rw [(numD_drop hx).1] at p
    obtain ⟨c2, p2, R2⟩ := R1.sought F h1 (xs[s.a].n + 1)
    refine ⟨c2, by rw [next_some h p h1 p2, List.set_set], ?_⟩
    have e : sk (xs[s.a].n + 1) xs s.a = s.a + 1 := by
      rw [sk_next hx (by omega)]
      by_cases h2 : s.a + 1 < xs.length
      · have hy : xs[s.a + 1]? = some xs[s.a + 1] := List.getElem?_eq_getElem h2
        exact sk_stop hy (by have := asc_get F.asc (Nat.lt_succ_self _) hx hy; omega)
      · have : s.a + 1 = xs.length := by omega
        rw [this, sk_end]
    rw [if_pos ha, ← e]
    exact R2
  · have dr : xs.drop s.a = [] := List.drop_eq_nil_of_le (by omega)
    rw [dr] at p
    refine ⟨c1, next_none h p, ?_⟩
    rw [if_neg ha]
    exact R1
theorem Rel.told (F : Fx2 xs b l) (R : Rel b xs l d s c) (h : gl[i]? = some (cO c)) : f_Cursor_block_told [.ref i] gl = .ok (if s.a < xs.length then rowT l (s.a / b) else .non) gl := by
  have hTl : c.T.length = l.length := by rw [R.T, List.length_map]
  by_cases ha : s.a < xs.length
  · have k0 : kk b xs l s.a = s.a / b := if_pos ha
    have ab2 : s.a / b * b ≤ s.a := Nat.div_mul_le_self _ _
    obtain ⟨z, hz⟩ := F.has (k := s.a / b) (by omega)
    have hzl := (List.getElem?_eq_some_iff.mp hz).1
    have rt : rowT l (s.a / b) = .tup [.int z.t0, .int z.t1, .int z.t2] := by unfold rowT; rw [hz]; rfl
    rw [if_pos ha, rt]
    exact told_spec (sz := z.size) (q := z.q) (pl := z.pl) (ln := z.ln) h (by rw [R.k]; omega) (by rw [R.k, k0, hTl]; omega) (by rw [R.T, R.k, k0]; exact atI_get (by rw [List.getElem?_map, hz]; rfl))
  · have k0 : kk b xs l s.a = l.length := if_neg ha
    rw [if_neg ha]
    exact told_end h (by rw [R.k, k0, hTl])
theorem Rel.stay (R : Rel b xs l d s c) (n : Int) {w : W7} (h1 : w ≠ .next) (h2 : w ≠ .seek) (h3 : w.asks = false) : Rel b xs l d (stepT b xs l w n s) c := by
  have e : stepT b xs l w n s = s := by
    unfold stepT stepS
    rw [h3]
    cases w <;> first | rfl | exact absurd rfl h1 | exact absurd rfl h2
  rw [e]
  exact R
/-- a step by a cursor -/
theorem told_step (F : Fx2 xs b l) (R : Rel b xs l d s c) (h : gl[i]? = some (cO c)) (w : W7) (n : Int) (hr : ∀ j ∈ stepS b xs w s, Rdb d l j) (c1 : Slot) (acc : List D) (hl : acc.length ≤ 10000) :
    ∃ c', l__law_told_1 ⟨[.val (.ref i), c1, .own (.lst acc), .val (.str w.s), .val (.int n)], gl⟩ = .ok .nx ⟨[.val (.ref i), c1, .own (.lst (acc ++ [stepD b xs l n s.a w, .int ((stepS b xs w s).length : Nat)])), .val (.str w.s), .val (.int n)], gl.set i (cO c')⟩ ∧ Rel b xs l d (stepT b xs l w n s) c' := by
  have q := fun s' (v : W7) => eqW s' w v
  have q1 := fun s' => q s' .number
  have q2 := fun s' => q s' .places
  have q3 := fun s' => q s' .next
  have q4 := fun s' => q s' .seek
  have q5 := fun s' => q s' .told
  have q6 := fun s' => q s' .from_
  have n1 : W7.s .number = "number" := rfl
  have n2 : W7.s .places = "places" := rfl
  have n3 : W7.s .next = "next" := rfl
  have n4 : W7.s .seek = "seek" := rfl
  have n5 : W7.s .told = "told" := rfl
  have n6 : W7.s .from_ = "from" := rfl
  rw [n1] at q1
  rw [n2] at q2
  rw [n3] at q3
  rw [n4] at q4
  rw [n5] at q5
  rw [n6] at q6
  have hgs : gl.set i (cO c) = gl := by
    obtain ⟨h1, h2⟩ := List.getElem?_eq_some_iff.mp h
    rw [← h2]
    exact List.set_getElem_self h1
  -- what is told, and the rest
  have key : ∃ c', Rel b xs l d (stepT b xs l w n s) c' ∧ (mIfS (mBl (mBin (opEq false) (mVar 3) (mC (.str "number")))) (mExpr (mLm1 fAppend (mVar 2) (mMeth "Cursor" "number" f_Cursor_number (mVar 0) mANil))) (mIfS (mBl (mBin (opEq false) (mVar 3) (mC (.str "places")))) (mExpr (mLm1 fAppend (mVar 2) (mMeth "Cursor" "places" f_Cursor_places (mVar 0) mANil))) (mIfS (mBl (mBin (opEq false) (mVar 3) (mC (.str "next")))) (mSeq (mExpr (mMeth "Cursor" "next" f_Cursor_next (mVar 0) mANil)) (mExpr (mLm1 fAppend (mVar 2) (mC .non)))) (mIfS (mBl (mBin (opEq false) (mVar 3) (mC (.str "seek")))) (mSeq (mExpr (mMeth "Cursor" "seek" f_Cursor_seek (mVar 0) (mACons (mVar 4) mANil))) (mExpr (mLm1 fAppend (mVar 2) (mC .non)))) (mIfS (mBl (mBin (opEq false) (mVar 3) (mC (.str "told")))) (mExpr (mLm1 fAppend (mVar 2) (mMeth "Cursor" "block_told" f_Cursor_block_told (mVar 0) mANil))) (mIfS (mBl (mBin (opEq false) (mVar 3) (mC (.str "from")))) (mExpr (mLm1 fAppend (mVar 2) (mMeth "Cursor" "told_from" f_Cursor_told_from (mVar 0) (mACons (mVar 4) mANil)))) (mExpr (mLm1 fAppend (mVar 2) (mMeth "Cursor" "count" f_Cursor_count (mVar 0) mANil))))))))) ⟨[.val (.ref i), c1, .own (.lst acc), .val (.str w.s), .val (.int n)], gl⟩ = .ok .nx ⟨[.val (.ref i), c1, .own (.lst (acc ++ [stepD b xs l n s.a w])), .val (.str w.s), .val (.int n)], gl.set i (cO c')⟩ := by
    have fa := fun x => fApp_ok acc x (by omega)
    have hc : gl[i]? = some (.ins "Cursor" (csF c)) := h
    cases w with
    | number =>
      obtain ⟨c', p, R'⟩ := R.number F h hr
      exact ⟨c', R', by simp [q1, hc, p, fa, stepD]⟩
    | places =>
      obtain ⟨c', p, R'⟩ := R.places F h hr
      exact ⟨c', R', by simp [q1, q2, hc, p, fa, stepD]⟩
    | next =>
      obtain ⟨c', p, R'⟩ := R.next F h hr
      exact ⟨c', R', by simp [q1, q2, q3, hc, p, fa, stepD]⟩
    | seek =>
      obtain ⟨c', p, R'⟩ := R.sought F h n
      exact ⟨c', R', by simp [q1, q2, q3, q4, hc, p, fa, stepD]⟩
    | told =>
      have p := R.told F h
      exact ⟨c, R.stay n (by simp) (by simp) rfl, by rw [hgs]; simp [q1, q2, q3, q4, q5, hc, p, fa, stepD]⟩
    | from_ =>
      have p := from_spec h l F.few2 R.T n
      exact ⟨c, R.stay n (by simp) (by simp) rfl, by rw [hgs]; simp [q1, q2, q3, q4, q5, q6, hc, p, fa, stepD]⟩
    | count =>
      have p := count_spec h
      exact ⟨c, R.stay n (by simp) (by simp) rfl, by rw [hgs]; simp [q1, q2, q3, q4, q5, q6, hc, p, fa, stepD, R.many]⟩
  obtain ⟨c', R', st⟩ := key
  refine ⟨c', ?_, R'⟩
  have h2 : (gl.set i (cO c'))[i]? = some (cO c') := set_at h
  have rs := read_spec h2
  have h3 : (gl.set i (cO c'))[i]? = some (.ins "Cursor" (csF c')) := h2
  have fa := fApp_ok (acc ++ [stepD b xs l n s.a w]) (.int c'.r) (by simp; omega)
  unfold l__law_told_1
  rw [seq_nx st]
  have er : c'.r = ((stepS b xs w s).length : Nat) := R'.r
  rw [er] at rs fa
  simp [h3, rs, fa]
theorem told_loop (F : Fx2 xs b l) (c1 : Slot) : ∀ (r : List (W7 × Int)) (s : St) (c : Cs) (gl : List MObj) (acc : List D) (d3 d4 : Slot), Rel b xs l d s c → gl[i]? = some (cO c) → (∀ j ∈ (runS b xs l r s).seen, Rdb d l j) → acc.length + 2 * r.length ≤ 10000 →
    ∃ c' d3' d4', forGo (tgTup [3, 4]) l__law_told_1 (r.map stD) ⟨[.val (.ref i), c1, .own (.lst acc), d3, d4], gl⟩ = .ok .nx ⟨[.val (.ref i), c1, .own (.lst (acc ++ runG b xs l r s)), d3', d4'], gl.set i (cO c')⟩ ∧ Rel b xs l d (runS b xs l r s) c'
  | [], s, c, gl, acc, d3, d4, R, h, _, _ => by
    refine ⟨c, d3, d4, ?_, R⟩
    have hgs : gl.set i (cO c) = gl := by
      obtain ⟨h1, h2⟩ := List.getElem?_eq_some_iff.mp h
      rw [← h2]
      exact List.set_getElem_self h1
    rw [hgs]
    simp [runG]
  | (w, n) :: r, s, c, gl, acc, d3, d4, R, h, hr, hl => by
    simp only [List.length_cons] at hl
    obtain ⟨c2, st, R2⟩ := told_step F R h w n (fun j m => hr j (runS_sub r _ j m)) c1 acc (by omega)
    obtain ⟨c3, e3, e4, w3, R3⟩ := told_loop F c1 r (stepT b xs l w n s) c2 (gl.set i (cO c2)) (acc ++ [stepD b xs l n s.a w, .int ((stepS b xs w s).length : Nat)]) (.val (.str w.s)) (.val (.int n)) R2 (set_at h) hr (by simp; omega)
    refine ⟨c3, e3, e4, ?_, R3⟩
    rw [List.map_cons]
    refine (fc_ok (s1 := ⟨[.val (.ref i), c1, .own (.lst acc), .val (.str w.s), .val (.int n)], gl⟩) (by simp [stD, as_d]) st).trans ?_
    rw [w3, List.set_set]
    simp [runG]
theorem told_all (F : Fx2 xs b l) (R : Rel b xs l d s c) (h : gl[i]? = some (cO c)) (r : List (W7 × Int)) (hr : ∀ j ∈ (runS b xs l r s).seen, Rdb d l j) (hl : r.length ≤ 1000) :
    ∃ c', f__law_told [.ref i, .lst (r.map stD)] gl = .ok (.lst (runG b xs l r s)) (gl.set i (cO c')) ∧ Rel b xs l d (runS b xs l r s) c' := by
  obtain ⟨c', d3, d4, w, R'⟩ := told_loop (i := i) F (.val (.lst (r.map stD))) r s c gl [] .none .none R h hr (by simp; omega)
  refine ⟨c', ?_, R'⟩
  rw [List.nil_append] at w
  generalize r.map stD = T at w ⊢
  simp [f__law_told, mDef, List.replicate, b__law_told, as_new, w]
theorem Rel.start (F : Fx2 xs b l) (h0 : ∀ x ∈ xs, 0 ≤ x.n) : Rel b xs l d ⟨0, []⟩ ⟨d, (xs.length : Nat), l.map Rw.d, 0, 0, .non, 0⟩ := by
  refine ⟨rfl, rfl, rfl, ?_, fun i x h => absurd h (Nat.not_lt_zero _), fun x hx => h0 x (List.mem_of_getElem? hx), ?_, rfl, fun j m => (nomatch m), Nat.zero_le _⟩
  · show (0 : Int) = (kk b xs l 0 : Nat)
    unfold kk
    split
    · simp
    · rename_i z
      have : xs.length = 0 := by omega
      have e : l.length = 0 := by
        rw [F.len, List.length_eq_zero_iff.mp this, parts_nil]
        rfl
      rw [e]
      rfl
  · show D.non = if kk b xs l 0 ∈ [] then _ else _
    simp
end
end K21
/-! # k21: what the law says is due in a course -/
namespace K21
open PySem PySem.Spec PyProof.Rows L2 MI
theorem anyO_int (k : Int) : ∀ l : List Int, anyO (fun y => eqvO 40 y (.int k)) (IL l) = some (decide (k ∈ l))
  | [] => rfl
  | a :: l => by
    show (match eqvO 40 (.int a) (.int k), anyO (fun y => eqvO 40 y (.int k)) (IL l) with | some a, some b => some (a || b) | _, _ => none) = _
    rw [anyO_int k l]
    have : eqvO 40 (.int a) (.int k) = some (a == k) := rfl
    rw [this]
    simp only [Option.some.injEq]
    by_cases h : a = k
    · subst h; simp
    · have h' : ¬ k = a := fun z => h z.symm
      simp [h, h']
theorem q_notIn {s : S} {k : Int} {l : List Int} {r : RV} (h : asItems s r = some (IL l)) : opIn true s (.d (.int k)) r = .ok (.d (.bl (!decide (k ∈ l)))) s := by
  have h2 : asD s (.d (.int k)) = some (.int k) := rfl
  unfold opIn
  rw [h, h2]
  show (match anyO (fun y => eqvO 40 y (.int k)) (IL l) with | some r => Res.ok (RV.d (.bl (r != true))) s | none => .stuck) = _
  rw [anyO_int]
  simp
def nI (l : List Nat) : List Int := l.map fun (k : Nat) => (k : Int)
theorem nI_mem {l : List Nat} {k : Nat} : (k : Int) ∈ nI l ↔ k ∈ l := by
  unfold nI
  rw [List.mem_map]
  exact ⟨fun ⟨a, h1, h2⟩ => by rwa [← Int.ofNat.inj h2], fun h => ⟨k, h, rfl⟩⟩
theorem in_asks (s : S) (w : W7) : opIn false s (.d (.str w.s)) (.d (.tup [.str "number", .str "places", .str "next"])) = .ok (.d (.bl w.asks)) s := by
  cases w <;> rfl
section
variable {xs : List Pg} {b : Nat} {l : List Rw}
def DS (xs : List Pg) (l : List Rw) (b : Nat) (c3 : Slot) (acc : List D) (a : Nat) (seen : List Nat) (w : W7) (n : Int) (d9 d10 d11 : Slot) : List Slot :=
  [.val (.tup (xs.map pgD)), .val (.lst (l.map Rw.t)), .val (.int b), c3, .own (.lst acc), .val (.int a), .own (.lst (IL (nI seen))), .val (.str w.s), .val (.int n), d9, d10, d11, .none]
theorem sk_loop (hx : xs.length ≤ 1000) (c3 : Slot) (acc : List D) (seen : List Nat) (w : W7) (n : Int) (d9 d10 d11 : Slot) (gl : List MObj) : ∀ (m a : Nat), a + m = xs.length →
    ∃ N, whileGo t__law_due_1 l__law_due_2 N ⟨DS xs l b c3 acc a seen w n d9 d10 d11, gl⟩ = .ok .nx ⟨DS xs l b c3 acc (sk n xs a) seen w n d9 d10 d11, gl⟩
  | 0, a, e => by
    obtain rfl : a = xs.length := by omega
    rw [sk_end]
    refine wh_stop ?_
    simp [t__law_due_1, DS]
  | m + 1, a, e => by
    have ha : a < xs.length := by omega
    have hq : xs[a]? = some xs[a] := List.getElem?_eq_getElem ha
    have ix : ∀ s, opIx s (.d (.tup (xs.map pgD))) (.d (.int a)) = .ok (.d (pgD xs[a])) s := fun s => q_ixT (atI_get (by rw [List.getElem?_map, hq]; rfl))
    have i2 : ∀ s, opIx s (.d (pgD xs[a])) (.d (.int 0)) = .ok (.d (.int xs[a].n)) s := fun s => q_ixT rfl
    by_cases z : xs[a].n < n
    · obtain ⟨N, h⟩ := sk_loop hx c3 acc seen w n d9 d10 d11 gl m (a + 1) (by omega)
      rw [sk_next hq z]
      refine wh_step (s1 := ⟨DS xs l b c3 acc a seen w n d9 d10 d11, gl⟩) ?_ ?_ ⟨N, h⟩
      · simp [t__law_due_1, DS, ix, i2, z, ha]
      · simp [l__law_due_2, DS, as_d]
    · rw [sk_stop hq z]
      refine wh_stop ?_
      simp [t__law_due_1, DS, ix, i2, z, ha]
theorem div_nat (a b : Nat) : ((a : Int) / (b : Int)) = ((a / b : Nat) : Int) := rfl
theorem rowT_ix {k : Nat} (h : k < l.length) (s : S) : opIx s (.d (.lst (l.map Rw.t))) (.d (.int k)) = .ok (.d (rowT l k)) s := by
  have hq : l[k]? = some l[k] := List.getElem?_eq_getElem h
  refine q_ixL rfl (atI_get ?_)
  rw [List.getElem?_map, hq]
  unfold rowT
  rw [hq]
  rfl
theorem due_step (F : Fx2 xs b l) (hb2 : b ≤ 1000) (c3 : Slot) (acc : List D) (s : St) (ha : s.a ≤ xs.length) (hs : s.seen.length ≤ 10000) (hl : acc.length ≤ 10000) (w : W7) (n : Int) (d9 d10 d11 : Slot) (gl : List MObj) :
    ∃ d9' d10' d11', l__law_due_4 ⟨DS xs l b c3 acc s.a s.seen w n d9 d10 d11, gl⟩ = .ok .nx ⟨DS xs l b c3 (acc ++ [stepD b xs l n s.a w, .int ((stepS b xs w s).length : Nat)]) (stepA xs n s.a w) (stepS b xs w s) w n d9' d10' d11', gl⟩ := by
  have hb := F.hb
  have hx := F.few
  have ln : ∀ s, fLen s (.d (.tup (xs.map pgD))) = .ok (.d (.int xs.length)) s := fun s => by rw [q_lenT, List.length_map]
  have fd : ∀ s' : S, opFdiv s' (.d (.int s.a)) (.d (.int b)) = .ok (.d (.int (s.a / b : Nat))) s' := fun s' => by rw [q_fdiv (by omega) (by omega)]; rfl
  -- none yet, there
  have sA : (mParN [9, 10] (mRCons (mC .non) (mRCons (mBin opLt (mVar 5) (mFn1 fLen (mVar 0))) mRNil))) ⟨DS xs l b c3 acc s.a s.seen w n d9 d10 d11, gl⟩ = .ok .nx ⟨DS xs l b c3 acc s.a s.seen w n (.val .non) (.val (.bl (decide (s.a < xs.length)))) d11, gl⟩ := by
    simp [DS, as_d]
  -- the blocks seen
  have sB : (mIfS (mAndT (mBl (mBin (opIn false) (mVar 7) (mTup (mACons (mC (.str "number")) (mACons (mC (.str "places")) (mACons (mC (.str "next")) mANil)))))) (mAndT (mTru (mVar 10)) (mBl (mBin (opIn true) (mBin opFdiv (mVar 5) (mVar 2)) (mVar 6))))) (mSet 6 (mBin opAdd (mVar 6) (mLst (mACons (mBin opFdiv (mVar 5) (mVar 2)) mANil)))) mNx) ⟨DS xs l b c3 acc s.a s.seen w n (.val .non) (.val (.bl (decide (s.a < xs.length)))) d11, gl⟩ = .ok .nx ⟨DS xs l b c3 acc s.a (stepS b xs w s) w n (.val .non) (.val (.bl (decide (s.a < xs.length)))) d11, gl⟩ := by
    have ia := fun s' => in_asks s' w
    unfold stepS K21.ask
    generalize s.a / b = q at fd ⊢
    have ni : ∀ s' : S, asItems s' (.at 6) = some (IL (nI s.seen)) → opIn true s' (.d (.int q)) (.at 6) = .ok (.d (.bl (!decide (q ∈ s.seen)))) s' := fun s' h => by rw [q_notIn h]; simp only [nI_mem]
    have ad : ∀ s' : S, asLst s' (.at 6) = some (IL (nI s.seen)) → opAdd s' (.at 6) (.new (.lst [.int q])) = .ok (.new (.lst (IL (nI (s.seen ++ [q]))))) s' := fun s' h => by
      rw [q_addL h rfl (szN _ (by simp [nI]; omega))]
      simp [nI]
    have ni : ∀ e : List Slot, e[6]? = some (.own (.lst (IL (nI s.seen)))) → opIn true ⟨e, gl⟩ (.d (.int q)) (.at 6) = .ok (.d (.bl (!decide (q ∈ s.seen)))) ⟨e, gl⟩ := fun e h => ni _ (by simp [asItems, asTup, asLst, h])
    have ad : ∀ e : List Slot, e[6]? = some (.own (.lst (IL (nI s.seen)))) → opAdd ⟨e, gl⟩ (.at 6) (.new (.lst [.int q])) = .ok (.new (.lst (IL (nI (s.seen ++ [q]))))) ⟨e, gl⟩ := fun e h => ad _ (by simp [asLst, h])
    unfold DS
    by_cases h1 : w.asks = true
    · by_cases h2 : s.a < xs.length
      · by_cases h3 : q ∈ s.seen
        · rw [if_pos h1, if_neg (by exact fun q => q.2 h3)]
          generalize IL (nI s.seen) = L0 at *
          simp [ia, h1, h2, h3, fd, ni, asD, truthD]
        · rw [if_pos h1, if_pos ⟨h2, h3⟩]
          generalize IL (nI s.seen) = L0 at *
          generalize IL (nI (s.seen ++ [q])) = L1 at *
          simp [ia, h1, h2, h3, fd, ni, asD, truthD, ad, as_new]
      · rw [if_pos h1, if_neg (by exact fun q => h2 q.1)]
        simp [ia, h1, h2, asD, truthD]
    · rw [if_neg h1]
      have h1 : w.asks = false := by simpa using h1
      simp [ia, h1]
  have e1 : ∀ s' v, opEq false s' (.d (.str w.s)) (.d (.str v.s)) = .ok (.d (.bl (decide (w = v)))) s' := fun s' v => eqW s' w v
  have q1 := fun s' => e1 s' .number
  have q2 := fun s' => e1 s' .places
  have q3 := fun s' => e1 s' .next
  have q4 := fun s' => e1 s' .seek
  have q5 := fun s' => e1 s' .told
  have q6 := fun s' => e1 s' .from_
  have n1 : W7.s .number = "number" := rfl
  have n2 : W7.s .places = "places" := rfl
  have n3 : W7.s .next = "next" := rfl
  have n4 : W7.s .seek = "seek" := rfl
  have n5 : W7.s .told = "told" := rfl
  have n6 : W7.s .from_ = "from" := rfl
  rw [n1] at q1
  rw [n2] at q2
  rw [n3] at q3
  rw [n4] at q4
  rw [n5] at q5
  rw [n6] at q6
  -- what is told
  have sC : ∃ d11', (mIfS (mBl (mBin (opEq false) (mVar 7) (mC (.str "number")))) (mSet 9 (mIf (mTru (mVar 10)) (mBin opIx (mBin opIx (mVar 0) (mVar 5)) (mC (.int 0))) (mC .non))) (mIfS (mBl (mBin (opEq false) (mVar 7) (mC (.str "places")))) (mSet 9 (mIf (mTru (mVar 10)) (mBin opIx (mBin opIx (mVar 0) (mVar 5)) (mC (.int 1))) (mTup mANil))) (mIfS (mBl (mBin (opEq false) (mVar 7) (mC (.str "next")))) (mSet 5 (mIf (mTru (mVar 10)) (mBin opAdd (mVar 5) (mC (.int 1))) (mVar 5))) (mIfS (mBl (mBin (opEq false) (mVar 7) (mC (.str "seek")))) (mWhile t__law_due_1 l__law_due_2) (mIfS (mBl (mBin (opEq false) (mVar 7) (mC (.str "told")))) (mSet 9 (mIf (mTru (mVar 10)) (mBin opIx (mVar 1) (mBin opFdiv (mVar 5) (mVar 2))) (mC .non))) (mIfS (mBl (mBin (opEq false) (mVar 7) (mC (.str "from")))) (mSeq (mSet 11 (mComp [12] (iSeq (mVar 1)) (tgName 12) c__law_due_3 (mVar 12))) (mSet 9 (mIf (mBl (mBin (opEq true) (mVar 11) (mLst mANil))) (mBin opIx (mVar 11) (mC (.int 0))) (mC .non)))) (mSet 9 (mFn1 fLen (mVar 0))))))))) ⟨DS xs l b c3 acc s.a (stepS b xs w s) w n (.val .non) (.val (.bl (decide (s.a < xs.length)))) d11, gl⟩ = .ok .nx ⟨DS xs l b c3 acc (stepA xs n s.a w) (stepS b xs w s) w n (.val (stepD b xs l n s.a w)) (.val (.bl (decide (s.a < xs.length)))) d11', gl⟩ := by
    generalize stepS b xs w s = SN
    cases w with
    | number =>
      refine ⟨d11, ?_⟩
      by_cases h2 : s.a < xs.length
      · have hq : xs[s.a]? = some xs[s.a] := List.getElem?_eq_getElem h2
        have ix : ∀ s', opIx s' (.d (.tup (xs.map pgD))) (.d (.int s.a)) = .ok (.d (pgD xs[s.a])) s' := fun s' => q_ixT (atI_get (by rw [List.getElem?_map, hq]; rfl))
        have i2 : ∀ s', opIx s' (.d (pgD xs[s.a])) (.d (.int 0)) = .ok (.d (.int xs[s.a].n)) s' := fun s' => q_ixT rfl
        simp [DS, q1, h2, asD, truthD, ix, i2, as_d, stepA, stepD, (numD_drop hq).1]
      · simp [DS, q1, h2, asD, truthD, as_d, stepA, stepD, List.drop_eq_nil_of_le (Nat.le_of_not_lt h2), numD]
    | places =>
      refine ⟨d11, ?_⟩
      by_cases h2 : s.a < xs.length
      · have hq : xs[s.a]? = some xs[s.a] := List.getElem?_eq_getElem h2
        have ix : ∀ s', opIx s' (.d (.tup (xs.map pgD))) (.d (.int s.a)) = .ok (.d (pgD xs[s.a])) s' := fun s' => q_ixT (atI_get (by rw [List.getElem?_map, hq]; rfl))
        have i2 : ∀ s', opIx s' (.d (pgD xs[s.a])) (.d (.int 1)) = .ok (.d (.tup (IL xs[s.a].ps))) s' := fun s' => q_ixT rfl
        simp [DS, q1, q2, h2, asD, truthD, ix, i2, as_d, stepA, stepD, (numD_drop hq).2]
      · simp [DS, q1, q2, h2, asD, truthD, as_d, stepA, stepD, List.drop_eq_nil_of_le (Nat.le_of_not_lt h2), plsD]
    | next =>
      refine ⟨d11, ?_⟩
      by_cases h2 : s.a < xs.length
      · simp [DS, q1, q2, q3, h2, asD, truthD, as_d, stepA, stepD]
      · simp [DS, q1, q2, q3, h2, asD, truthD, as_d, stepA, stepD]
    | seek =>
      refine ⟨d11, ?_⟩
      have w := wh_done (sk_loop (b := b) (l := l) hx c3 acc SN .seek n (.val .non) (.val (.bl (decide (s.a < xs.length)))) d11 gl (xs.length - s.a) s.a (by omega)) (by simp)
      have w2 : ∀ m : S → Res Out, mIfS (mBl (mBin (opEq false) (mVar 7) (mC (.str "seek")))) (mWhile t__law_due_1 l__law_due_2) m ⟨DS xs l b c3 acc s.a SN .seek n (.val .non) (.val (.bl (decide (s.a < xs.length)))) d11, gl⟩ = .ok .nx ⟨DS xs l b c3 acc (sk n xs s.a) SN .seek n (.val .non) (.val (.bl (decide (s.a < xs.length)))) d11, gl⟩ := fun m => by
        have e : mBl (mBin (opEq false) (mVar 7) (mC (.str "seek"))) ⟨DS xs l b c3 acc s.a SN .seek n (.val .non) (.val (.bl (decide (s.a < xs.length)))) d11, gl⟩ = .ok true ⟨DS xs l b c3 acc s.a SN .seek n (.val .non) (.val (.bl (decide (s.a < xs.length)))) d11, gl⟩ := by simp [DS, q4]
        rw [ap_IfS, e]
        exact w
      have no : ∀ (v : Str) (m1 m2 : S → Res Out), (∀ s', opEq false s' (.d (.str (W7.s .seek))) (.d (.str v)) = .ok (.d (.bl false)) s') → mIfS (mBl (mBin (opEq false) (mVar 7) (mC (.str v)))) m1 m2 ⟨DS xs l b c3 acc s.a SN .seek n (.val .non) (.val (.bl (decide (s.a < xs.length)))) d11, gl⟩ = m2 ⟨DS xs l b c3 acc s.a SN .seek n (.val .non) (.val (.bl (decide (s.a < xs.length)))) d11, gl⟩ := fun v m1 m2 hv => by
        have e : mBl (mBin (opEq false) (mVar 7) (mC (.str v))) ⟨DS xs l b c3 acc s.a SN .seek n (.val .non) (.val (.bl (decide (s.a < xs.length)))) d11, gl⟩ = .ok false ⟨DS xs l b c3 acc s.a SN .seek n (.val .non) (.val (.bl (decide (s.a < xs.length)))) d11, gl⟩ := by simp [DS, hv]
        rw [ap_IfS, e]
        rfl
      rw [no _ _ _ (fun s' => q1 s'), no _ _ _ (fun s' => q2 s'), no _ _ _ (fun s' => q3 s'), w2]
      rfl
    | told =>
      refine ⟨d11, ?_⟩
      by_cases h2 : s.a < xs.length
      · have ab2 : s.a / b * b ≤ s.a := Nat.div_mul_le_self _ _
        obtain ⟨z, hz⟩ := F.has (k := s.a / b) (by omega)
        have rt := rowT_ix (l := l) (List.getElem?_eq_some_iff.mp hz).1
        unfold stepD
        generalize s.a / b = q at fd rt ⊢
        simp [DS, q1, q2, q3, q4, q5, h2, asD, truthD, as_d, stepA, fd, rt]
      · simp [DS, q1, q2, q3, q4, q5, h2, asD, truthD, as_d, stepA, stepD]
    | from_ =>
      have cm : mComp [12] (iSeq (mVar 1)) (tgName 12) c__law_due_3 (mVar 12) ⟨DS xs l b c3 acc s.a SN .from_ n (.val .non) (.val (.bl (decide (s.a < xs.length)))) d11, gl⟩ = .ok (.new (.lst ((l.filter fun z => decide (n ≤ z.t0)).map Rw.t))) ⟨DS xs l b c3 acc s.a SN .from_ n (.val .non) (.val (.bl (decide (s.a < xs.length)))) d11, gl⟩ := by
        refine comp_flt l Rw.t Rw.t _ (by simp [DS]) (by simp [DS]) rfl (by have := F.few2; omega) fun z m => ?_
        have i2 : ∀ s, opIx s (.d z.t) (.d (.int 0)) = .ok (.d (.int z.t0)) s := fun s => q_ixT rfl
        exact ⟨by simp [DS, c__law_due_3, i2], fun _ => by simp [DS]⟩
      unfold stepD stepA
      generalize (l.filter fun z => decide (n ≤ z.t0)) = R at cm ⊢
      refine ⟨.own (.lst (R.map Rw.t)), ?_⟩
      cases R with
      | nil =>
        have ne : ∀ s' : S, s'.env[11]? = some (.own (.lst [])) → opEq true s' (.at 11) (.new (.lst [])) = .ok (.d (.bl false)) s' := fun s' h => by
          obtain ⟨e, g⟩ := s'
          have h : e[11]? = some (.own (.lst [])) := h
          unfold opEq
          simp [asD, h]
          rfl
        rw [List.map_nil] at cm
        unfold DS at cm ⊢
        simp [-ap_Comp, q1, q2, q3, q4, q5, q6, cm, as_new, ne, as_d, fstD]
      | cons z R =>
        have i1 : ∀ s', asLst s' (.at 11) = some (z.t :: R.map Rw.t) → opIx s' (.at 11) (.d (.int 0)) = .ok (.d z.t) s' := fun s' hs => q_ixL hs (atI_get (k := 0) rfl)
        have ne : ∀ s' : S, s'.env[11]? = some (.own (.lst (z.t :: R.map Rw.t))) → opEq true s' (.at 11) (.new (.lst [])) = .ok (.d (.bl true)) s' := fun s' h => by
          obtain ⟨e, g⟩ := s'
          have h : e[11]? = some (.own (.lst (z.t :: R.map Rw.t))) := h
          unfold opEq
          simp [asD, h]
          rfl
        rw [List.map_cons] at cm
        unfold DS at cm ⊢
        simp [-ap_Comp, q1, q2, q3, q4, q5, q6, cm, as_new, ne, as_d, fstD, i1, asLst]
    | count =>
      refine ⟨d11, ?_⟩
      simp [DS, q1, q2, q3, q4, q5, q6, as_d, stepA, stepD]
  obtain ⟨d11', sC⟩ := sC
  refine ⟨.val (stepD b xs l n s.a w), .val (.bl (decide (s.a < xs.length))), d11', ?_⟩
  unfold l__law_due_4
  rw [seq_nx sA, seq_nx sB, seq_nx sC]
  have fe := fExt_lst acc [stepD b xs l n s.a w, .int ((stepS b xs w s).length : Nat)] (by simp; omega)
  have le : ∀ s' : S, asD s' (.at 6) = some (.lst (IL (nI (stepS b xs w s)))) → fLen s' (.at 6) = .ok (.d (.int ((stepS b xs w s).length : Nat))) s' := fun s' h => by rw [q_lenL h]; simp [nI]
  unfold DS
  generalize IL (nI (stepS b xs w s)) = L1 at le ⊢
  generalize stepD b xs l n s.a w = T at fe ⊢
  generalize ((stepS b xs w s).length : Int) = LN at *
  simp [fe, le, asD]
end
end K21
/-! # k21: what is due in a course; a drawn course -/
namespace K21
open PySem PySem.Spec PyProof.Rows L2 MI
section
variable {xs : List Pg} {b : Nat} {l : List Rw}
theorem stepA_le (n : Int) (w : W7) {a : Nat} (h : a ≤ xs.length) : stepA xs n a w ≤ xs.length := by
  cases w <;> unfold stepA <;> simp only <;> try exact h
  · split <;> omega
  · exact (sk_all (xs := xs) (n := n) (xs.length - a) a (by omega)).2.1
theorem stepS_len (w : W7) (s : St) : (stepS b xs w s).length ≤ s.seen.length + 1 := by
  unfold stepS K21.ask
  split
  · split
    · simp
    · omega
  · omega
theorem due_loop (F : Fx2 xs b l) (hb2 : b ≤ 1000) (c3 : Slot) : ∀ (r : List (W7 × Int)) (s : St) (acc : List D) (gl : List MObj) (w0 : W7) (n0 : Int) (d7 d8 d9 d10 d11 : Slot), s.a ≤ xs.length → s.seen.length + r.length ≤ 5000 → acc.length + 2 * r.length ≤ 10000 →
    ∃ d7' d8' d9' d10' d11', forGo (tgTup [7, 8]) l__law_due_4 (r.map stD) ⟨[.val (.tup (xs.map pgD)), .val (.lst (l.map Rw.t)), .val (.int b), c3, .own (.lst acc), .val (.int s.a), .own (.lst (IL (nI s.seen))), d7, d8, d9, d10, d11, .none], gl⟩ =
      .ok .nx ⟨[.val (.tup (xs.map pgD)), .val (.lst (l.map Rw.t)), .val (.int b), c3, .own (.lst (acc ++ runG b xs l r s)), .val (.int (runS b xs l r s).a), .own (.lst (IL (nI (runS b xs l r s).seen))), d7', d8', d9', d10', d11', .none], gl⟩
  | [], s, acc, gl, w0, n0, d7, d8, d9, d10, d11, _, _, _ => ⟨d7, d8, d9, d10, d11, by simp [runG, runS]⟩
  | (w, n) :: r, s, acc, gl, w0, n0, d7, d8, d9, d10, d11, ha, hs, hl => by
    simp only [List.length_cons] at hs hl
    obtain ⟨e9, e10, e11, st⟩ := due_step F hb2 c3 acc s ha (by omega) (by omega) w n d9 d10 d11 gl
    have sl := stepS_len (b := b) (xs := xs) w s
    obtain ⟨f7, f8, f9, f10, f11, w2⟩ := due_loop F hb2 c3 r (stepT b xs l w n s) (acc ++ [stepD b xs l n s.a w, .int ((stepS b xs w s).length : Nat)]) gl w0 n0 (.val (.str w.s)) (.val (.int n)) e9 e10 e11 (stepA_le n w ha) (by show (stepS b xs w s).length + r.length ≤ 5000; omega) (by simp; omega)
    refine ⟨f7, f8, f9, f10, f11, ?_⟩
    rw [List.map_cons]
    refine (fc_ok (s1 := ⟨DS xs l b c3 acc s.a s.seen w n d9 d10 d11, gl⟩) (by simp [stD, as_d, DS]) st).trans ?_
    refine w2.trans ?_
    simp [runG, runS]
theorem due_all (F : Fx2 xs b l) (hb2 : b ≤ 1000) (r : List (W7 × Int)) (hr : r.length ≤ 1000) (gl : List MObj) : f__law_due [.tup (xs.map pgD), .lst (l.map Rw.t), .int b, .lst (r.map stD)] gl = .ok (.tup [.lst (runG b xs l r ⟨0, []⟩), .lst (IL (nI (runS b xs l r ⟨0, []⟩).seen))]) gl := by
  obtain ⟨d7, d8, d9, d10, d11, w⟩ := due_loop F hb2 (.val (.lst (r.map stD))) r ⟨0, []⟩ [] gl .number 0 .none .none .none .none .none (Nat.zero_le _) (by simp; omega) (by simp; omega)
  rw [List.nil_append] at w
  have n0 : IL (nI []) = [] := rfl
  simp only [n0] at w
  generalize IL (nI (runS b xs l r ⟨0, []⟩).seen) = L1 at w ⊢
  generalize runG b xs l r ⟨0, []⟩ = G at w ⊢
  generalize r.map stD = T at w ⊢
  have e0 : ((0 : Nat) : Int) = 0 := rfl
  simp only [e0] at w
  simp [f__law_due, mDef, List.replicate, b__law_due, as_new, as_d, w]
end
/-- a drawn course -/
def w7 : Nat → W7
  | 0 => .number
  | 1 => .places
  | 2 => .next
  | 3 => .seek
  | 4 => .told
  | 5 => .from_
  | _ => .count
theorem ix_w7 (s : S) : ∀ k : Nat, k < 7 → opIx s (.d (.tup [.str "number", .str "places", .str "next", .str "seek", .str "told", .str "from", .str "count"])) (.d (.int k)) = .ok (.d (.str (w7 k).s)) s
  | 0, _ => rfl
  | 1, _ => rfl
  | 2, _ => rfl
  | 3, _ => rfl
  | 4, _ => rfl
  | 5, _ => rfl
  | 6, _ => rfl
  | k + 7, h => by omega
theorem course_loop (many : Nat) (hm : many ≤ 1000) : ∀ (m lo : Nat) (r : List (W7 × Int)) (gl : List MObj) (c3 : Slot), Bx gl → r.length + m ≤ 1000 →
    ∃ (r' : List (W7 × Int)) (c3' : Slot) (gl' : List MObj), forGo (tgName 3) l__law_course_1 (rangeD lo m) ⟨[.val (.ref 1), .val (.int many), .own (.lst (r.map stD)), c3], gl⟩ = .ok .nx ⟨[.val (.ref 1), .val (.int many), .own (.lst (r'.map stD)), c3'], gl'⟩ ∧ Bx gl' ∧ r'.length = r.length + m
  | 0, lo, r, gl, c3, hB, _ => ⟨r, c3, gl, rfl, hB, rfl⟩
  | m + 1, lo, r, gl, c3, hB, hl => by
    obtain ⟨k, g1, d1, k0, k1, B1⟩ := draw_spec gl 7 hB (by omega) (by omega)
    obtain ⟨n, g2, d2, n0, n1, B2⟩ := draw_spec g1 ((many : Int) + 3) B1 (by omega) (by omega)
    obtain ⟨k, rfl⟩ := Int.eq_ofNat_of_zero_le k0
    obtain ⟨r', e3, g', w, B', hr⟩ := course_loop many hm m (lo + 1) (r ++ [(w7 k, n)]) g2 (.val (.int lo)) B2 (by simp; omega)
    have ix := fun s => ix_w7 s k (by omega)
    have fa := fApp_ok (r.map stD) (stD (w7 k, n)) (by rw [List.length_map]; omega)
    refine ⟨r', e3, g', ?_, B', by rw [hr]; simp; omega⟩
    rw [rangeD]
    refine (fc_ok (s1 := ⟨[.val (.ref 1), .val (.int many), .own (.lst (r.map stD)), .val (.int lo)], gl⟩) (s2 := ⟨[.val (.ref 1), .val (.int many), .own (.lst ((r ++ [(w7 k, n)]).map stD)), .val (.int lo)], g2⟩) (by simp [as_d]) ?_).trans ?_
    · have e : (r ++ [(w7 k, n)]).map stD = r.map stD ++ [stD (w7 k, n)] := by simp
      rw [e]
      unfold stD at fa ⊢
      simp only at fa ⊢
      generalize (w7 k).s = ws at ix fa ⊢
      have z7 : 7 ≤ sizeLine := szN _ (by omega)
      simp [l__law_course_1, d1, d2, ix, fa, z7]
    · rw [show ((lo : Int) + 1) = ((lo + 1 : Nat) : Int) by omega]
      exact w
theorem course_spec (many : Nat) (hm : many ≤ 1000) (gl : List MObj) (hB : Bx gl) : ∃ (r : List (W7 × Int)) (gl' : List MObj), f__law_course [.ref 1, .int many] gl = .ok (.lst (r.map stD)) gl' ∧ Bx gl' ∧ r.length ≤ 14 := by
  obtain ⟨k, g1, d1, k0, k1, B1⟩ := draw_spec gl 15 hB (by omega) (by omega)
  obtain ⟨k, rfl⟩ := Int.eq_ofNat_of_zero_le k0
  obtain ⟨r, c3, g', w, B', hr⟩ := course_loop many hm k 0 [] g1 .none B1 (by simp; omega)
  refine ⟨r, g', ?_, B', by simp at hr; omega⟩
  have rg : rng1 (k : Int) = some (rangeD 0 k) := rng1_nat (by omega)
  simp only [List.map_nil, Int.natCast_zero] at w
  generalize r.map stD = T at w ⊢
  have d1 : f__law_draw [.ref 1, .int 15] gl = .ok (.int (k : Nat)) g1 := d1
  simp [f__law_course, mDef, List.replicate, b__law_course, as_new, d1, rg, w]
end K21
/-! # k21: pieces of a turn -/
namespace K21
open PySem PySem.Spec PyProof.Rows L2 MI
theorem rws_t2 (f : List Pg → Int) : ∀ (ps : List (List Pg)) (pl : Nat) (q : Int), ∀ z ∈ rws pl q ps (ps.map f), z.t2 = f z.p
  | [], _, _ => fun z m => nomatch m
  | p :: ps, pl, q => fun z m => by
    rw [List.map_cons, rws, List.mem_cons] at m
    rcases m with rfl | m
    · rfl
    · exact rws_t2 f ps _ _ z m
theorem asc_last : ∀ {p : List Pg} {q : Int}, AscI q (p.map (·.n)) → ∀ x ∈ p, x.n ≤ lastN p
  | [], _, _ => fun x m => nomatch m
  | [y], _, _ => fun x m => by rw [List.mem_singleton.mp m]; exact Int.le_refl _
  | y :: y2 :: p, q, h => fun x m => by
    rw [lastN_cons]
    have h2 : AscI y.n ((y2 :: p).map (·.n)) := h.2
    rcases List.mem_cons.mp m with rfl | m
    · have := asc_last h2 y2 List.mem_cons_self
      have h3 : x.n < y2.n := h2.1
      omega
    · exact asc_last h2 x m
theorem pg0 (y : Pg) (s : S) : opIx s (.d (pgD y)) (.d (.int 0)) = .ok (.d (.int y.n)) s := q_ixT rfl
theorem zip_map {ι : Type} (f g : ι → D) : ∀ l : List ι, zipD (l.map f) (l.map g) = l.map fun z => .tup [f z, g z]
  | [] => rfl
  | z :: l => by rw [List.map_cons, List.map_cons, List.map_cons, zipD, zip_map f g l]
theorem l_parts (gl : List MObj) (xs : List Pg) (b : Nat) (hb : 0 < b) (hb2 : b ≤ 100) (hl : xs.length ≤ 1000) (c0 c2 c3 c5 c6 c7 c8 c9 c10 c12 c13 c14 c15 c16 c17 c18 c19 c21 : Slot) :
    mComp [20] (iRange3 (mACons (mC (.int 0)) (mACons (mFn1 fLen (mVar 11)) (mACons (mVar 4) mANil)))) (tgName 20) mYes e_law_9 ⟨[c0, .val (.ref 1), c2, c3, .val (.int b), c5, c6, c7, c8, c9, c10, .val (.tup (xs.map pgD)), c12, c13, c14, c15, c16, c17, c18, c19, .none, c21, .none, .none], gl⟩
      = .ok (.new (.lst ((parts b xs).map ptD))) ⟨[c0, .val (.ref 1), c2, c3, .val (.int b), c5, c6, c7, c8, c9, c10, .val (.tup (xs.map pgD)), c12, c13, c14, c15, c16, c17, c18, c19, .none, c21, .none, .none], gl⟩ := by
  have hr := rng_parts xs b hb (by omega) (by omega)
  have hf := pl_fst b 0 (parts b xs)
  simp only [Int.natCast_zero] at hf
  have hp := parts_fewer b hb xs
  rw [← pl_snd b ptD 0 (parts b xs)]
  refine comp_mapI (PL b 0 (parts b xs)) (fun z => .int z.1) (fun z => ptD z.2) (by simp [hr, hf]) (by simp) rfl (by rw [pl_len]; omega) fun z m => ?_
  have sl := sl_part xs b z.1 z.2 (pl_mem b hb xs xs 0 rfl z m).1
  simp [e_law_9, asInt, sl, ptD]
/-- the tables that the law tells -/
theorem l_tables (gl : List MObj) (ls : List Int) (lo : Nat) (l : List Rw) (hl : l.length ≤ 1000) (h : ∀ z ∈ l, RwG z ∧ z.t2 = lsP ls z.p ∧ z.p.length ≤ 1000 ∧ ∀ x ∈ z.p, Sm ls lo x) (c0 c2 c3 c4 c5 c7 c8 c9 c10 c11 c13 c14 c15 c16 c17 c18 c19 c21 : Slot) (n13 : NoO c13) :
    mComp [13] (iSeq (mVar 6)) (tgName 13) mYes e_law_8 ⟨[c0, .val (.ref 1), c2, c3, c4, c5, .own (.lst (l.map fun z => ptD z.p)), c7, c8, c9, c10, c11, .val (.tup (IL ls)), c13, c14, c15, c16, c17, c18, c19, .none, c21, .none, .none], gl⟩
      = .ok (.new (.lst (l.map Rw.t))) ⟨[c0, .val (.ref 1), c2, c3, c4, c5, .val (.lst (l.map fun z => ptD z.p)), c7, c8, c9, c10, c11, .val (.tup (IL ls)), c13, c14, c15, c16, c17, c18, c19, .none, c21, .none, .none], gl⟩ := by
  refine comp_mapI l (fun z => ptD z.p) Rw.t (by simp [iSeq]) (by simp) (no_of rfl n13) (by omega) fun z m => ?_
  obtain ⟨⟨g1, g2, g3, g4, g5, g6, g7, g8⟩, t2, zl, hs⟩ := h z m
  have ng : ∀ s, fNeg s (.d (.int 1)) = .ok (.d (.int (-1))) s := fun s => rfl
  have c1 : mComp [22, 23] (iSeq (mVar 13)) (tgTup [22, 23]) mYes e_law_6 ⟨[c0, .val (.ref 1), c2, c3, c4, c5, .val (.lst (l.map fun z => ptD z.p)), c7, c8, c9, c10, c11, .val (.tup (IL ls)), .val (ptD z.p), c14, c15, c16, c17, c18, c19, .none, c21, .none, .none], gl⟩ = .ok (.new (.lst (IL (cnts z.p)))) ⟨[c0, .val (.ref 1), c2, c3, c4, c5, .val (.lst (l.map fun z => ptD z.p)), c7, c8, c9, c10, c11, .val (.tup (IL ls)), .val (ptD z.p), c14, c15, c16, c17, c18, c19, .none, c21, .none, .none], gl⟩ := by
    unfold cnts
    rw [il_map]
    refine comp_mapG z.p pgD (fun x => D.int (x.ps.length : Nat)) (by simp [ptD]) rfl (by omega) fun x mx => ?_
    have ln : ∀ s, fLen s (.d (.tup (IL x.ps))) = .ok (.d (.int x.ps.length)) s := fun s => by rw [q_lenT, List.length_map]
    exact ⟨[c0, .val (.ref 1), c2, c3, c4, c5, .val (.lst (l.map fun z => ptD z.p)), c7, c8, c9, c10, c11, .val (.tup (IL ls)), .val (ptD z.p), c14, c15, c16, c17, c18, c19, .none, c21, .val (.int x.n), .val (.tup (IL x.ps))], [c0, .val (.ref 1), c2, c3, c4, c5, .val (.lst (l.map fun z => ptD z.p)), c7, c8, c9, c10, c11, .val (.tup (IL ls)), .val (ptD z.p), c14, c15, c16, c17, c18, c19, .none, c21, .val (.int x.n), .val (.tup (IL x.ps))], by simp [wipeE, pgD, as_d], by simp [e_law_6, ln], rfl⟩
  have c2 : mComp [22, 23] (iSeq (mVar 13)) (tgTup [22, 23]) mYes e_law_7 ⟨[c0, .val (.ref 1), c2, c3, c4, c5, .val (.lst (l.map fun z => ptD z.p)), c7, c8, c9, c10, c11, .val (.tup (IL ls)), .val (ptD z.p), c14, c15, c16, c17, c18, c19, .none, c21, .none, .none], gl⟩ = .ok (.new (.lst (IL (z.p.map (lv ls))))) ⟨[c0, .val (.ref 1), c2, c3, c4, c5, .val (.lst (l.map fun z => ptD z.p)), c7, c8, c9, c10, c11, .val (.tup (IL ls)), .val (ptD z.p), c14, c15, c16, c17, c18, c19, .none, c21, .none, .none], gl⟩ := by
    rw [il_map z.p (lv ls)]
    refine comp_mapG z.p pgD (fun x => D.int (lv ls x)) (by simp [ptD]) rfl (by omega) fun x mx => ?_
    have ix : ∀ s, opIx s (.d (.tup (IL ls))) (.d (.int x.n)) = .ok (.d (.int (lv ls x))) s := fun s => q_ixT (ix_lv (hs x mx))
    exact ⟨[c0, .val (.ref 1), c2, c3, c4, c5, .val (.lst (l.map fun z => ptD z.p)), c7, c8, c9, c10, c11, .val (.tup (IL ls)), .val (ptD z.p), c14, c15, c16, c17, c18, c19, .none, c21, .val (.int x.n), .val (.tup (IL x.ps))], [c0, .val (.ref 1), c2, c3, c4, c5, .val (.lst (l.map fun z => ptD z.p)), c7, c8, c9, c10, c11, .val (.tup (IL ls)), .val (ptD z.p), c14, c15, c16, c17, c18, c19, .none, c21, .val (.int x.n), .val (.tup (IL x.ps))], by simp [wipeE, pgD, as_d], by simp [e_law_7, ix], rfl⟩
  obtain ⟨x, mx, at1, elt⟩ := last_at g1
  have ix1 : ∀ s, opIx s (.d (ptD z.p)) (.d (.int (-1))) = .ok (.d (pgD x)) s := fun s => q_ixT at1
  have ix2 : ∀ s, opIx s (.d (pgD x)) (.d (.int 0)) = .ok (.d (.int (lastN z.p))) s := fun s => by rw [elt]; exact q_ixT rfl
  have mx' : ∀ s, fFold maxL true s (.new (.lst (IL (cnts z.p)))) = .ok (.d (.int (maxL (cnts z.p)))) s := fun s => fold_of rfl (cnts_ne g1)
  have mn : ∀ s, fFold minL true s (.new (.lst (IL (z.p.map (lv ls))))) = .ok (.d (.int (lsP ls z.p))) s := fun s => lsP_fold g1 rfl
  have et : z.t = .tup [.int (lastN z.p), .int (maxL (cnts z.p)), .int (lsP ls z.p)] := by unfold Rw.t; rw [g3, g4, t2]
  rw [et]
  generalize (l.map fun z => ptD z.p) = PT at c1 c2 ⊢
  generalize IL (cnts z.p) = C at c1 c2 mx'
  generalize IL (z.p.map (lv ls)) = M at c2 mn
  simp [-ap_Comp, e_law_8, ix1, ix2, c1, c2, mx', mn]
/-- what is told of a block bounds its postings -/
theorem l_bound (gl : List MObj) (ls : List Int) (lo : Nat) (z : Rw) (h : RwG z ∧ z.t2 = lsP ls z.p ∧ z.p.length ≤ 1000 ∧ ∀ x ∈ z.p, Sm ls lo x) (c0 c2 c3 c4 c5 c6 c7 c8 c9 c10 c11 c15 c16 c17 c18 c19 c21 : Slot) :
    l_law_5 ⟨[c0, .val (.ref 1), c2, c3, c4, c5, c6, c7, c8, c9, c10, c11, .val (.tup (IL ls)), .val (ptD z.p), .val z.t, c15, c16, c17, c18, c19, .none, c21, .none, .none], gl⟩ = .ok .nx ⟨[c0, .val (.ref 1), c2, c3, c4, c5, c6, c7, c8, c9, c10, c11, .val (.tup (IL ls)), .val (ptD z.p), .val z.t, c15, c16, c17, c18, c19, .none, c21, .none, .none], gl⟩ := by
  obtain ⟨⟨g1, g2, g3, g4, g5, g6, g7, g8⟩, t2, zl, hs⟩ := h
  have c1 : mComp [22, 23] (iSeq (mVar 13)) (tgTup [22, 23]) mYes e_law_4 ⟨[c0, .val (.ref 1), c2, c3, c4, c5, c6, c7, c8, c9, c10, c11, .val (.tup (IL ls)), .val (ptD z.p), .val z.t, c15, c16, c17, c18, c19, .none, c21, .none, .none], gl⟩ = .ok (.new (.lst (z.p.map fun _ => D.bl false))) ⟨[c0, .val (.ref 1), c2, c3, c4, c5, c6, c7, c8, c9, c10, c11, .val (.tup (IL ls)), .val (ptD z.p), .val z.t, c15, c16, c17, c18, c19, .none, c21, .none, .none], gl⟩ := by
    refine comp_mapG z.p pgD (fun x => D.bl false) (by simp [ptD]) rfl (by omega) fun x mx => ?_
    have ln : ∀ s, fLen s (.d (.tup (IL x.ps))) = .ok (.d (.int x.ps.length)) s := fun s => by rw [q_lenT, List.length_map]
    have ix : ∀ s, opIx s (.d (.tup (IL ls))) (.d (.int x.n)) = .ok (.d (.int (lv ls x))) s := fun s => q_ixT (ix_lv (hs x mx))
    have i0 : ∀ s, opIx s (.d z.t) (.d (.int 0)) = .ok (.d (.int z.t0)) s := fun s => q_ixT rfl
    have i1 : ∀ s, opIx s (.d z.t) (.d (.int 1)) = .ok (.d (.int z.t1)) s := fun s => q_ixT rfl
    have i2 : ∀ s, opIx s (.d z.t) (.d (.int 2)) = .ok (.d (.int z.t2)) s := fun s => q_ixT rfl
    have b0 : ¬ z.t0 < x.n := by have := asc_last g7 x mx; omega
    have b1 : ¬ z.t1 < (x.ps.length : Int) := by have := maxL_le (l := cnts z.p) x.ps.length (List.mem_map.mpr ⟨x, mx, rfl⟩); omega
    have b2 : ¬ lv ls x < z.t2 := by
      have : minL (z.p.map (lv ls)) ≤ lv ls x := minL_le _ (List.mem_map.mpr ⟨x, mx, rfl⟩)
      rw [t2]
      unfold lsP
      omega
    exact ⟨[c0, .val (.ref 1), c2, c3, c4, c5, c6, c7, c8, c9, c10, c11, .val (.tup (IL ls)), .val (ptD z.p), .val z.t, c15, c16, c17, c18, c19, .none, c21, .val (.int x.n), .val (.tup (IL x.ps))], [c0, .val (.ref 1), c2, c3, c4, c5, c6, c7, c8, c9, c10, c11, .val (.tup (IL ls)), .val (ptD z.p), .val z.t, c15, c16, c17, c18, c19, .none, c21, .val (.int x.n), .val (.tup (IL x.ps))], by simp [wipeE, pgD, as_d], by simp [e_law_4, ln, ix, i0, i1, i2, b0, b1, b2, truthD, asD], rfl⟩
  have fa := any_falses z.p
  generalize (z.p.map fun _ => D.bl false) = Z at c1 fa
  simp [-ap_Comp, l_law_5, c1, fa, asD, truthD]
theorem l_bounds (gl : List MObj) (ls : List Int) (lo : Nat) (c0 c2 c3 c4 c5 c6 c7 c8 c9 c10 c11 c15 c16 c17 c18 c19 c21 : Slot) : ∀ (l : List Rw) (c13 c14 : Slot), (∀ z ∈ l, RwG z ∧ z.t2 = lsP ls z.p ∧ z.p.length ≤ 1000 ∧ ∀ x ∈ z.p, Sm ls lo x) → NoO c13 →
    ∃ d13 d14, forGo (tgTup [13, 14]) l_law_5 (l.map fun z => .tup [ptD z.p, z.t]) ⟨[c0, .val (.ref 1), c2, c3, c4, c5, c6, c7, c8, c9, c10, c11, .val (.tup (IL ls)), c13, c14, c15, c16, c17, c18, c19, .none, c21, .none, .none], gl⟩ = .ok .nx ⟨[c0, .val (.ref 1), c2, c3, c4, c5, c6, c7, c8, c9, c10, c11, .val (.tup (IL ls)), d13, d14, c15, c16, c17, c18, c19, .none, c21, .none, .none], gl⟩ ∧ NoO d13
  | [], c13, c14, _, n => ⟨c13, c14, rfl, n⟩
  | z :: l, c13, c14, h, n => by
    obtain ⟨d13, d14, w, n'⟩ := l_bounds gl ls lo c0 c2 c3 c4 c5 c6 c7 c8 c9 c10 c11 c15 c16 c17 c18 c19 c21 l (.val (ptD z.p)) (.val z.t) (fun y m => h y (List.mem_cons_of_mem _ m)) (no_val _)
    refine ⟨d13, d14, ?_, n'⟩
    rw [List.map_cons]
    exact (fc_ok (s1 := ⟨[c0, .val (.ref 1), c2, c3, c4, c5, c6, c7, c8, c9, c10, c11, .val (.tup (IL ls)), .val (ptD z.p), .val z.t, c15, c16, c17, c18, c19, .none, c21, .none, .none], gl⟩) (by simp [as_d]) (l_bound gl ls lo z (h z List.mem_cons_self) c0 c2 c3 c4 c5 c6 c7 c8 c9 c10 c11 c15 c16 c17 c18 c19 c21)).trans w
end K21
/-! # k21: other blocks are overwritten; all postings, one behind another -/
namespace K21
open PySem PySem.Spec PyProof.Rows L2 MI
theorem hb_loop (c0 c2 c3 c4 c5 c6 c7 c8 c10 c11 c12 c13 c14 c15 c16 c17 c18 c19 : Slot) : ∀ (blk pre post : List Int) (gl : List MObj) (c21 : Slot), Bx gl → (pre ++ blk ++ post).length ≤ 100000 →
    ∃ (blk' : List Int) (gl' : List MObj) (c21' : Slot), forGo (tgName 21) l_law_2 (rangeD (pre.length : Nat) blk.length) ⟨[c0, .val (.ref 1), c2, c3, c4, c5, c6, c7, c8, .own (.lst (IL (pre ++ blk ++ post))), c10, c11, c12, c13, c14, c15, c16, c17, c18, c19, .none, c21, .none, .none], gl⟩ = .ok .nx ⟨[c0, .val (.ref 1), c2, c3, c4, c5, c6, c7, c8, .own (.lst (IL (pre ++ blk' ++ post))), c10, c11, c12, c13, c14, c15, c16, c17, c18, c19, .none, c21', .none, .none], gl'⟩ ∧ Bx gl' ∧ blk'.length = blk.length ∧ Byt blk'
  | [], pre, post, gl, c21, hB, _ => ⟨[], gl, c21, rfl, hB, rfl, fun _ h => (nomatch h)⟩
  | x :: blk, pre, post, gl, c21, hB, hl => by
    obtain ⟨y, gl1, d1, y0, y1, B1⟩ := draw_spec gl 256 hB (by omega) (by omega)
    obtain ⟨blk', gl', c21', w, B', hl', hb'⟩ := hb_loop c0 c2 c3 c4 c5 c6 c7 c8 c10 c11 c12 c13 c14 c15 c16 c17 c18 c19 blk (pre ++ [y]) post gl1 (.val (.int pre.length)) B1 (by simp only [List.length_append, List.length_cons, List.length_nil] at hl ⊢; omega)
    have e1 : pre ++ [y] ++ blk ++ post = pre ++ y :: (blk ++ post) := by simp
    have e2 : pre ++ [y] ++ blk' ++ post = pre ++ (y :: blk') ++ post := by simp
    have e3 : pre ++ x :: blk ++ post = pre ++ x :: (blk ++ post) := by simp
    have e4 : (pre ++ [y]).length = pre.length + 1 := by simp
    rw [e1, e2, e4] at w
    rw [e3]
    have ixn : ixN (IL (pre ++ x :: (blk ++ post))).length (pre.length : Int) = some pre.length := by
      unfold ixN
      rw [if_pos (by omega), if_pos (by simp; omega)]
      simp
    have se : (IL (pre ++ x :: (blk ++ post))).set pre.length (.int y) = IL (pre ++ y :: (blk ++ post)) := by
      show (List.map D.int (pre ++ x :: (blk ++ post))).set pre.length (.int y) = List.map D.int (pre ++ y :: (blk ++ post))
      rw [List.map_append, List.map_append, List.set_append_right _ _ (by simp)]
      simp
    have st : l_law_2 ⟨[c0, .val (.ref 1), c2, c3, c4, c5, c6, c7, c8, .own (.lst (IL (pre ++ x :: (blk ++ post)))), c10, c11, c12, c13, c14, c15, c16, c17, c18, c19, .none, .val (.int pre.length), .none, .none], gl⟩ = .ok .nx ⟨[c0, .val (.ref 1), c2, c3, c4, c5, c6, c7, c8, .own (.lst (IL (pre ++ y :: (blk ++ post)))), c10, c11, c12, c13, c14, c15, c16, c17, c18, c19, .none, .val (.int pre.length), .none, .none], gl1⟩ := by
      simp at ixn
      simp [-List.map_append, -List.map_cons, l_law_2, d1, ixn, se]
    refine ⟨y :: blk', gl', c21', ?_, B', by simp [hl'], fun z m => ?_⟩
    · rw [List.length_cons, rangeD, forGo_cons, ap_tgName, as_d (by simp)]
      simp only [List.set_cons_succ, List.set_cons_zero, st]
      have e5 : (pre.length : Int) + 1 = ((pre.length + 1 : Nat) : Int) := by omega
      rw [e5]
      exact w
    · rcases List.mem_cons.mp m with rfl | m
      · exact ⟨y0, y1⟩
      · exact hb' z m
theorem hu_loop (seen : List Nat) (c0 c2 c3 c4 c5 c6 c7 c8 c10 c11 c12 c13 c14 c15 c19 : Slot) : ∀ (ps : List (List Pg)) (ms : List Int) (q : Int) (k : Nat) (pre : List Int) (gl : List MObj) (c17 c18 c21 : Slot), GPs q ps ms → Bx gl → (pre ++ bdP q ps).length ≤ 100000 →
    ∃ (bs : List (List Int)) (gl' : List MObj) (c17' c18' c21' : Slot), forGo (tgTup [17, 18]) l_law_3 (enumD k ((rws pre.length q ps ms).map Rw.d)) ⟨[c0, .val (.ref 1), c2, c3, c4, c5, c6, c7, c8, .own (.lst (IL (pre ++ bdP q ps))), c10, c11, c12, c13, c14, c15, .val (.lst (IL (nI seen))), c17, c18, c19, .none, c21, .none, .none], gl⟩ = .ok .nx ⟨[c0, .val (.ref 1), c2, c3, c4, c5, c6, c7, c8, .own (.lst (IL (pre ++ bs.flatten))), c10, c11, c12, c13, c14, c15, .val (.lst (IL (nI seen))), c17', c18', c19, .none, c21', .none, .none], gl'⟩ ∧ Bx gl' ∧ FitB q ps bs ∧
      (∀ (j : Nat) (z : Rw), (rws pre.length q ps ms)[j]? = some z → k + j ∈ seen → bs[j]? = some (blk z.q z.p)) ∧ Byt bs.flatten
  | [], ms, q, k, pre, gl, c17, c18, c21, _, hB, _ => ⟨[], gl, c17, c18, c21, by simp [rws, enumD, forGo, bdP], hB, trivial, fun j z h => by simp [rws] at h, fun _ h => (nomatch h)⟩
  | _ :: _, [], _, _, _, _, _, _, _, h, _, _ => h.elim
  | p :: ps, m :: ms, q, k, pre, gl, c17, c18, c21, hg, hB, hl => by
    obtain ⟨_, _, _, _, _, g6⟩ := hg
    have eb : pre ++ bdP q (p :: ps) = pre ++ blk q p ++ bdP (lastN p) ps := by rw [bdP, List.append_assoc]
    rw [eb] at hl ⊢
    have t1 : tgTup [17, 18] (.tup [.int k, Rw.d ⟨(p.length : Nat), q, lastN p, maxL (cnts p), m, (pre.length : Nat), ((blk q p).length : Nat), p⟩]) ⟨[c0, .val (.ref 1), c2, c3, c4, c5, c6, c7, c8, .own (.lst (IL (pre ++ blk q p ++ bdP (lastN p) ps))), c10, c11, c12, c13, c14, c15, .val (.lst (IL (nI seen))), c17, c18, c19, .none, c21, .none, .none], gl⟩ = some ⟨[c0, .val (.ref 1), c2, c3, c4, c5, c6, c7, c8, .own (.lst (IL (pre ++ blk q p ++ bdP (lastN p) ps))), c10, c11, c12, c13, c14, c15, .val (.lst (IL (nI seen))), .val (.int k), .val (Rw.d ⟨(p.length : Nat), q, lastN p, maxL (cnts p), m, (pre.length : Nat), ((blk q p).length : Nat), p⟩), c19, .none, c21, .none, .none], gl⟩ := by
      simp [as_d]
    have ix2 : ∀ s, opIx s (.d (Rw.d ⟨(p.length : Nat), q, lastN p, maxL (cnts p), m, (pre.length : Nat), ((blk q p).length : Nat), p⟩)) (.d (.int 3)) = .ok (.d (.int pre.length)) s := fun s => q_ixT rfl
    have ix3 : ∀ s, opIx s (.d (Rw.d ⟨(p.length : Nat), q, lastN p, maxL (cnts p), m, (pre.length : Nat), ((blk q p).length : Nat), p⟩)) (.d (.int 4)) = .ok (.d (.int ((blk q p).length : Nat))) s := fun s => q_ixT rfl
    have qn : ∀ s : S, opIn true s (.d (.int k)) (.d (.lst (IL (nI seen)))) = .ok (.d (.bl (!decide (k ∈ seen)))) s := fun s => by rw [q_notIn (l := nI seen) rfl]; simp only [nI_mem]
    have hr2 : rng2 (pre.length : Int) ((pre.length : Int) + (blk q p).length) = some (rangeD (pre.length : Nat) (blk q p).length) := by
      have ll : (pre ++ blk q p ++ bdP (lastN p) ps).length = pre.length + (blk q p).length + (bdP (lastN p) ps).length := by simp only [List.length_append]
      rw [rng2_ok (by omega) (by omega) (by omega) (by omega)]
      congr 2
      omega
    have step : ∃ (B : List Int) (gl1 : List MObj) (c21' : Slot), Bx gl1 ∧ B.length = (blk q p).length ∧ Byt B ∧ (k ∈ seen → B = blk q p) ∧ l_law_3 ⟨[c0, .val (.ref 1), c2, c3, c4, c5, c6, c7, c8, .own (.lst (IL (pre ++ blk q p ++ bdP (lastN p) ps))), c10, c11, c12, c13, c14, c15, .val (.lst (IL (nI seen))), .val (.int k), .val (Rw.d ⟨(p.length : Nat), q, lastN p, maxL (cnts p), m, (pre.length : Nat), ((blk q p).length : Nat), p⟩), c19, .none, c21, .none, .none], gl⟩ = .ok .nx ⟨[c0, .val (.ref 1), c2, c3, c4, c5, c6, c7, c8, .own (.lst (IL (pre ++ B ++ bdP (lastN p) ps))), c10, c11, c12, c13, c14, c15, .val (.lst (IL (nI seen))), .val (.int k), .val (Rw.d ⟨(p.length : Nat), q, lastN p, maxL (cnts p), m, (pre.length : Nat), ((blk q p).length : Nat), p⟩), c19, .none, c21', .none, .none], gl1⟩ := by
      by_cases hk : k ∈ seen
      · refine ⟨blk q p, gl, c21, hB, rfl, byt_blk q p, fun _ => rfl, ?_⟩
        generalize IL (nI seen) = SL at qn ⊢
        simp [-List.map_append, l_law_3, qn, hk]
      · obtain ⟨B, gl1, c21', w, B1, hl1, hb1⟩ := hb_loop c0 c2 c3 c4 c5 c6 c7 c8 c10 c11 c12 c13 c14 c15 (.val (.lst (IL (nI seen)))) (.val (.int k)) (.val (Rw.d ⟨(p.length : Nat), q, lastN p, maxL (cnts p), m, (pre.length : Nat), ((blk q p).length : Nat), p⟩)) c19 (blk q p) pre (bdP (lastN p) ps) gl c21 hB hl
        refine ⟨B, gl1, c21', B1, hl1, hb1, fun h => absurd h hk, ?_⟩
        generalize IL (nI seen) = SL at qn w ⊢
        generalize Rw.d ⟨(p.length : Nat), q, lastN p, maxL (cnts p), m, (pre.length : Nat), ((blk q p).length : Nat), p⟩ = RD at ix2 ix3 w ⊢
        simp [-List.map_append, -List.append_assoc, l_law_3, qn, hk, ix2, ix3, hr2, w]
    obtain ⟨B, gl1, c21', B1, bl1, bb1, bk1, st⟩ := step
    obtain ⟨bs, gl', d17, d18, d21, w, B', ha, hk, hby⟩ := hu_loop seen c0 c2 c3 c4 c5 c6 c7 c8 c10 c11 c12 c13 c14 c15 c19 ps ms (lastN p) (k + 1) (pre ++ B) gl1 (.val (.int k)) (.val (Rw.d ⟨(p.length : Nat), q, lastN p, maxL (cnts p), m, (pre.length : Nat), ((blk q p).length : Nat), p⟩)) c21' g6 B1 (by simp only [List.length_append] at hl ⊢; omega)
    have el : (pre ++ B).length = pre.length + (blk q p).length := by rw [List.length_append, bl1]
    rw [el] at w hk
    refine ⟨B :: bs, gl', d17, d18, d21, ?_, B', ⟨bl1, ha⟩, fun j z hz hs => ?_, by rw [List.flatten_cons]; exact byt_app bb1 hby⟩
    · rw [rws, List.map_cons, enumD, forGo_cons, t1]
      simp only [st]
      rw [List.flatten_cons, ← List.append_assoc]
      exact w
    · cases j with
      | zero =>
        rw [rws, List.getElem?_cons_zero] at hz
        cases hz
        rw [List.getElem?_cons_zero, bk1 hs]
      | succ j =>
        rw [rws, List.getElem?_cons_succ] at hz
        rw [List.getElem?_cons_succ]
        exact hk j z hz (by rw [show k + 1 + j = k + (j + 1) by omega]; exact hs)
section
variable {xs : List Pg} {b : Nat} {l : List Rw} {d : List Int}
/-- blocks among the first ones -/
def bN (b i : Nat) : Nat := (i + b - 1) / b
theorem ask_range (hb : 0 < b) {i : Nat} (hi : i < xs.length) : K21.ask b xs ⟨i, List.range (bN b i)⟩ = List.range (bN b (i + 1)) := by
  have e1 : bN b (i + 1) = i / b + 1 := by
    unfold bN
    rw [show i + 1 + b - 1 = i + b by omega, Nat.add_div_right _ hb]
  have e2 : b * (i / b) + i % b = i := Nat.div_add_mod i b
  have m := Nat.mod_lt i hb
  unfold K21.ask
  by_cases h : i % b = 0
  · have e3 : bN b i = i / b := by
      unfold bN
      rw [Nat.div_eq_of_lt_le]
      · rw [Nat.mul_comm]; omega
      · rw [Nat.add_mul, Nat.mul_comm]; omega
    rw [e3, e1, if_pos ⟨hi, by simp⟩, List.range_succ]
  · have e3 : bN b i = i / b + 1 := by
      unfold bN
      rw [Nat.div_eq_of_lt_le]
      · rw [Nat.add_mul, Nat.mul_comm]; omega
      · rw [Nat.add_mul, Nat.add_mul, Nat.mul_comm]; omega
    rw [e3, e1, if_neg]
    intro q
    exact q.2 (by simp)
theorem ask_again (s : St) : K21.ask b xs ⟨s.a, K21.ask b xs s⟩ = K21.ask b xs s := by
  by_cases h : s.a < xs.length
  · have m : s.a / b ∈ K21.ask b xs s := by
      by_cases q : s.a / b ∈ s.seen
      · exact ask_sub _ q
      · unfold K21.ask
        rw [if_pos ⟨h, q⟩]
        simp
    exact if_neg fun q => q.2 m
  · exact if_neg fun q => h q.1
theorem walk_step (F : Fx2 xs b l) (rd : ∀ j, Rdb d l j) {c : Cs} {i : Nat} {gl : List MObj} (s : St) (R : Rel b xs l d s c) (h : gl[i]? = some (cO c)) (acc : List D) (ha : acc.length ≤ 10000) (c0 c2 c4 c5 c6 c7 c8 c9 c11 c12 c13 c14 c15 c16 c17 c18 c21 : Slot) (c10 : Slot) :
    ∃ c', l_law_1 ⟨[c0, .val (.ref 1), c2, .val (.ref i), c4, c5, c6, c7, c8, c9, c10, c11, c12, c13, c14, c15, c16, c17, c18, .own (.lst (acc)), .none, c21, .none, .none], gl⟩ = .ok .nx ⟨[c0, .val (.ref 1), c2, .val (.ref i), c4, c5, c6, c7, c8, c9, c10, c11, c12, c13, c14, c15, c16, c17, c18, .own (.lst (acc ++ [.tup [numD (xs.drop s.a), plsD (xs.drop s.a)]])), .none, c21, .none, .none], gl.set i (cO c')⟩ ∧ Rel b xs l d ⟨if s.a < xs.length then s.a + 1 else s.a, K21.ask b xs s⟩ c' := by
  obtain ⟨q1, p1, R1⟩ := R.number F h (fun j _ => rd j)
  have h1 : (gl.set i (cO q1))[i]? = some (cO q1) := set_at h
  obtain ⟨q2, p2, R2⟩ := R1.places F h1 (fun j _ => rd j)
  rw [ask_again] at R2
  have R2 : Rel b xs l d ⟨s.a, K21.ask b xs s⟩ q2 := R2
  rw [List.set_set] at p2
  have h2 : (gl.set i (cO q2))[i]? = some (cO q2) := set_at h
  obtain ⟨q3, p3, R3⟩ := R2.next F h2 (fun j _ => rd j)
  rw [ask_again] at R3
  rw [List.set_set] at p3
  refine ⟨q3, ?_, R3⟩
  have fa := fun x => fApp_ok acc x (by omega)
  have k1 : gl[i]? = some (.ins "Cursor" (csF c)) := h
  have k2 : (gl.set i (cO q1))[i]? = some (.ins "Cursor" (csF q1)) := h1
  have k3 : (gl.set i (cO q2))[i]? = some (.ins "Cursor" (csF q2)) := h2
  simp [l_law_1, k1, p1, k2, p2, fa, k3, p3]
theorem walk_loop (F : Fx2 xs b l) (rd : ∀ j, Rdb d l j) {i : Nat} (c0 c2 c4 c5 c6 c7 c8 c9 c11 c12 c13 c14 c15 c16 c17 c18 c21 : Slot) : ∀ (m lo : Nat) (c : Cs) (gl : List MObj) (c10 : Slot), lo + m = xs.length → Rel b xs l d ⟨lo, List.range (bN b lo)⟩ c → gl[i]? = some (cO c) →
    ∃ c' c10', forGo (tgName 10) l_law_1 (rangeD lo (m + 1)) ⟨[c0, .val (.ref 1), c2, .val (.ref i), c4, c5, c6, c7, c8, c9, c10, c11, c12, c13, c14, c15, c16, c17, c18, .own (.lst ((xs.take lo).map pgD)), .none, c21, .none, .none], gl⟩ = .ok .nx ⟨[c0, .val (.ref 1), c2, .val (.ref i), c4, c5, c6, c7, c8, c9, c10', c11, c12, c13, c14, c15, c16, c17, c18, .own (.lst (xs.map pgD ++ [.tup [.non, .tup []]])), .none, c21, .none, .none], gl.set i (cO c')⟩ ∧ Rel b xs l d ⟨xs.length, List.range (bN b xs.length)⟩ c'
  | 0, lo, c, gl, c10, e, R, h => by
    obtain rfl : lo = xs.length := by omega
    obtain ⟨c', st, R'⟩ := walk_step F rd _ R h ((xs.take xs.length).map pgD) (by have := F.few; simp; omega) c0 c2 c4 c5 c6 c7 c8 c9 c11 c12 c13 c14 c15 c16 c17 c18 c21 (.val (.int xs.length))
    have n0 : K21.ask b xs ⟨xs.length, List.range (bN b xs.length)⟩ = List.range (bN b xs.length) := if_neg fun q => Nat.lt_irrefl _ q.1
    rw [n0, if_neg (Nat.lt_irrefl _)] at R'
    refine ⟨c', .val (.int xs.length), ?_, R'⟩
    rw [rangeD, rangeD]
    refine (fc_ok (s1 := ⟨[c0, .val (.ref 1), c2, .val (.ref i), c4, c5, c6, c7, c8, c9, .val (.int xs.length), c11, c12, c13, c14, c15, c16, c17, c18, .own (.lst ((xs.take xs.length).map pgD)), .none, c21, .none, .none], gl⟩) (by rw [ap_tgName, as_d (by simp)]; rfl) st).trans ?_
    have dr : xs.drop (St.a ⟨xs.length, List.range (bN b xs.length)⟩) = [] := List.drop_eq_nil_of_le (Nat.le_refl _)
    rw [dr, List.take_of_length_le (Nat.le_refl _)]
    rfl
  | m + 1, lo, c, gl, c10, e, R, h => by
    have hlo : lo < xs.length := by omega
    obtain ⟨q1, st, R1⟩ := walk_step F rd _ R h ((xs.take lo).map pgD) (by have := F.few; simp; omega) c0 c2 c4 c5 c6 c7 c8 c9 c11 c12 c13 c14 c15 c16 c17 c18 c21 (.val (.int lo))
    rw [ask_range F.hb hlo, if_pos hlo] at R1
    obtain ⟨q2, d10, w, R2⟩ := walk_loop F rd c0 c2 c4 c5 c6 c7 c8 c9 c11 c12 c13 c14 c15 c16 c17 c18 c21 m (lo + 1) q1 (gl.set i (cO q1)) (.val (.int lo)) (by omega) R1 (set_at h)
    refine ⟨q2, d10, ?_, R2⟩
    rw [rangeD]
    refine (fc_ok (s1 := ⟨[c0, .val (.ref 1), c2, .val (.ref i), c4, c5, c6, c7, c8, c9, .val (.int lo), c11, c12, c13, c14, c15, c16, c17, c18, .own (.lst ((xs.take lo).map pgD)), .none, c21, .none, .none], gl⟩) (by rw [ap_tgName, as_d (by simp)]; rfl) st).trans ?_
    have hx : xs[lo]? = some xs[lo] := List.getElem?_eq_getElem hlo
    obtain ⟨n1, n2⟩ := numD_drop hx
    have e1 : (xs.take lo).map pgD ++ [.tup [numD (xs.drop (St.a ⟨lo, List.range (bN b lo)⟩)), plsD (xs.drop (St.a ⟨lo, List.range (bN b lo)⟩))]] = (xs.take (lo + 1)).map pgD := by
      show (xs.take lo).map pgD ++ [.tup [numD (xs.drop lo), plsD (xs.drop lo)]] = _
      rw [n1, n2, List.take_succ, hx, List.map_append]
      rfl
    rw [e1, show ((lo : Int) + 1) = ((lo + 1 : Nat) : Int) by omega]
    rw [List.set_set] at w
    exact w
end
end K21
/-! # k21: a turn, the law -/
namespace K21
open PySem PySem.Spec PyProof.Rows L2 MI
theorem pl_app {n : Nat} : ∀ {a b : List D}, PlL n a → PlL n b → PlL n (a ++ b)
  | [], _, _, h => h
  | _ :: _, _, .cons _ _ _ h t, h2 => .cons _ _ _ h (pl_app t h2)
theorem pl_t (n : Nat) (z : Rw) : Pl (n + 2) z.t := .tup _ _ (by simp) (.cons _ _ _ (.int _ _) (.cons _ _ _ (.int _ _) (.cons _ _ _ (.int _ _) (.nil _))))
theorem pl_step (n : Nat) (b : Nat) (xs : List Pg) (l : List Rw) (m : Int) (a : Nat) (h : ∀ x ∈ xs, x.ps.length ≤ 100000) (w : W7) : Pl (n + 2) (stepD b xs l m a w) := by
  cases w with
  | number =>
    show Pl (n + 2) (numD (xs.drop a))
    cases xs.drop a with
    | nil => exact .non _
    | cons x r => exact .int _ _
  | places =>
    show Pl (n + 2) (plsD (xs.drop a))
    cases e : xs.drop a with
    | nil => exact .tup _ _ (by simp) (.nil _)
    | cons x r => exact pl_tupI n x.ps (h x (List.mem_of_mem_drop (by rw [e]; exact List.mem_cons_self)))
  | next => exact .non _
  | seek => exact .non _
  | told =>
    show Pl (n + 2) (if a < xs.length then rowT l (a / b) else .non)
    split
    · unfold rowT
      split
      · exact pl_t n _
      · exact .non _
    · exact .non _
  | from_ =>
    show Pl (n + 2) (fstD (l.filter fun z => decide (m ≤ z.t0)))
    cases (l.filter fun z => decide (m ≤ z.t0)) with
    | nil => exact .non _
    | cons z r => exact pl_t n z
  | count => exact .int _ _
theorem pl_run (n : Nat) (b : Nat) (xs : List Pg) (l : List Rw) (h : ∀ x ∈ xs, x.ps.length ≤ 100000) : ∀ (r : List (W7 × Int)) (s : St), PlL (n + 2) (runG b xs l r s)
  | [], _ => .nil _
  | (w, m) :: r, s => .cons _ _ _ (pl_step n b xs l m s.a h w) (.cons _ _ _ (.int _ _) (pl_run n b xs l h r _))
theorem bx_of {gl : List MObj} {x : List MObj} (h : Bx gl) : Bx (gl ++ x) := bx_more h x
theorem make_spec (d : List Int) (many : Int) (T : List D) (ht : ∀ gl, f_read_table [.tup (IL d)] gl = .ok (.tup [.int many, .lst T]) gl) (gl : List MObj) :
    f_Cursor___init__ [.ref gl.length, .tup (IL d)] (gl ++ [.ins "Cursor" []]) = .ok .non (gl ++ [cO ⟨d, many, T, 0, 0, .non, 0⟩]) := by
  have := init_spec d many T ht (i := gl.length) (gl := gl ++ [.ins "Cursor" []]) (get_end _ _)
  rwa [set_end] at this
/-- what the written bytes, and those in which blocks are overwritten, are read as -/
theorem good21 (xs : List Pg) (b : Nat) (hb : 0 < b) (ms : List Int) (g : GPs (-1) (parts b xs) ms) (ha : AscI (-1) (xs.map (·.n))) (hl : xs.length ≤ 1000) (hd : (datP xs b ms).length ≤ 5000) :
    Fx2 xs b (rws (hdr xs b ms).length (-1) (parts b xs) ms) ∧ ∀ bs, FitB (-1) (parts b xs) bs → Byt bs.flatten →
      (∀ gl, f_read_table [.tup (IL (hdr xs b ms ++ bs.flatten))] gl = .ok (.tup [.int (xs.length : Nat), .lst ((rws (hdr xs b ms).length (-1) (parts b xs) ms).map Rw.d)]) gl) ∧
      ∀ j, (∀ z, (rws (hdr xs b ms).length (-1) (parts b xs) ms)[j]? = some z → bs[j]? = some (blk z.q z.p)) → Rdb (hdr xs b ms ++ bs.flatten) (rws (hdr xs b ms).length (-1) (parts b xs) ms) j := by
  refine ⟨⟨hb, rws_p _ _ _ _ g, rws_g _ _ _ _ g, ha, hl⟩, fun bs fb hy => ?_⟩
  obtain ⟨f1, f2⟩ := fit_len fb
  have hB : Byt (hdr xs b ms ++ bs.flatten) := by
    refine byt_app ?_ hy
    have := byt_dat xs b ms
    rw [datP_hdr] at this
    exact byt_left this
  have h5 : (hdr xs b ms ++ bs.flatten).length ≤ 5000 := by
    rw [datP_hdr, List.length_append] at hd
    rw [List.length_append, f1]
    exact hd
  refine ⟨tbl_spec xs b hb ms g bs.flatten f1 hB h5, fun j hj z hz gl => ?_⟩
  exact read_at h5 hB (rws_g _ _ _ _ g z (List.mem_of_getElem? hz)) (at_of _ _ _ _ _ g fb j z hz (hj z hz)) gl
theorem bks_get : ∀ (ps : List (List Pg)) (q : Int) (ms : List Int) (pl : Nat), GPs q ps ms → ∀ (j : Nat) (z : Rw), (rws pl q ps ms)[j]? = some z → (bks q ps)[j]? = some (blk z.q z.p)
  | [], _, _, _, _, j, z, h => by simp [rws] at h
  | _ :: _, _, [], _, h, _, _, _ => h.elim
  | p :: ps, q, m :: ms, pl, g, 0, z, h => by
    rw [rws, List.getElem?_cons_zero] at h
    cases h
    rfl
  | p :: ps, q, m :: ms, pl, g, j + 1, z, h => by
    obtain ⟨_, _, _, _, _, g6⟩ := g
    rw [rws, List.getElem?_cons_succ] at h
    exact bks_get ps _ ms _ g6 j z h
theorem turn (gl : List MObj) (hB : Bx gl) (c0 c2 c3 c4 c5 c6 c7 c8 c9 c10 c11 c12 c13 c14 c15 c16 c17 c18 c19 c21 : Slot) (n13 : NoO c13) :
    ∃ g11 g12 g4 g5 g6 g7 g13 g14 g8 g15 g16 g9 g17 g18 g21 g3 g19 g10 gl', l_law_10 ⟨[c0, .val (.ref 1), c2, c3, c4, c5, c6, c7, c8, c9, c10, c11, c12, c13, c14, c15, c16, c17, c18, c19, .none, c21, .none, .none], gl⟩ = .ok .nx ⟨[c0, .val (.ref 1), c2, g3, g4, g5, g6, g7, g8, g9, g10, g11, g12, g13, g14, g15, g16, g17, g18, g19, .none, g21, .none, .none], gl'⟩ ∧ NoO g13 ∧ Bx gl' := by
  obtain ⟨k, gl0, d1, k0, k1, B0⟩ := draw_spec gl 11 hB (by omega) (by omega)
  obtain ⟨k, rfl⟩ : ∃ j : Nat, k = j := ⟨k.toNat, by omega⟩
  obtain ⟨xs, ls, gl1, pr, B1, iv⟩ := postings_spec k (by omega) gl0 B0
  have hs := iv_sm iv
  have ha := iv.asc
  have hxl := iv.few
  have hll := iv.len
  obtain ⟨b0, gl2, d2', b00, b01, B2⟩ := draw_spec gl1 4 B1 (by omega) (by omega)
  obtain ⟨b, hbe⟩ : ∃ b : Nat, 1 + b0 = (b : Int) := ⟨(1 + b0).toNat, by omega⟩
  have hb : 0 < b := by omega
  have hb2 : b ≤ 100 := by omega
  have hg := gps_drawn ls k b hb xs (-1) ha hs
  have hlen := dat_le (by omega) xs b hb hb2 ha hs (by omega)
  obtain ⟨mo1, w1⟩ := write_postings_spec ls k (by omega) (.tup (IL ls)) (.inl rfl) xs b hb hb2 ha hs (by omega) gl2
  have B3 := bx_more B2 mo1
  generalize gl2 ++ mo1 = gl3 at w1 B3
  obtain ⟨F, good⟩ := good21 xs b hb (mss ls b xs) hg ha (by omega) (by omega)
  have t2 : ∀ z ∈ rws (hdr xs b (mss ls b xs)).length (-1) (parts b xs) (mss ls b xs), z.t2 = lsP ls z.p := rws_t2 (lsP ls) (parts b xs) _ _
  have bg := bks_get (parts b xs) (-1) (mss ls b xs) (hdr xs b (mss ls b xs)).length hg
  have g1 := good (bks (-1) (parts b xs)) (bks_fit _ _) (by rw [bks_flat]; exact byt_bd _ _)
  rw [bks_flat, ← datP_hdr] at g1
  obtain ⟨tb1, rd1⟩ := g1
  have rdA : ∀ j, Rdb (datP xs b (mss ls b xs)) (rws (hdr xs b (mss ls b xs)).length (-1) (parts b xs) (mss ls b xs)) j := fun j => rd1 j fun z hz => bg j z hz
  have ed := datP_hdr xs b (mss ls b xs)
  generalize hD : datP xs b (mss ls b xs) = d at *
  generalize hH : hdr xs b (mss ls b xs) = hd at *
  generalize hL : rws hd.length (-1) (parts b xs) (mss ls b xs) = l at *
  have hpt : (parts b xs).map ptD = l.map fun z => ptD z.p := by rw [← F.hp, List.map_map]; rfl
  have hrow : ∀ z ∈ l, RwG z ∧ z.t2 = lsP ls z.p ∧ z.p.length ≤ 1000 ∧ ∀ x ∈ z.p, Sm ls k x := fun z mz => by
    have mp : z.p ∈ parts b xs := F.hp ▸ List.mem_map.mpr ⟨z, mz, rfl⟩
    have := parts_le b hb xs z.p mp
    exact ⟨F.hg z mz, t2 z mz, by omega, fun x mx => hs x (parts_sub hb mp mx)⟩
  have l1000 := F.few2
  have h0 : ∀ x ∈ xs, 0 ≤ x.n := fun x m => (hs x m).2.2.2.1
  have hps : ∀ x ∈ xs, x.ps.length ≤ 100000 := fun x m => by have := (hs x m).2.1; omega
  have c_parts := l_parts gl3 xs b hb hb2 (by omega) c0 c2 c3 (.val (.tup (IL d))) c6 c7 c8 c9 c10 (.val (.tup (IL ls))) c13 c14 c15 c16 c17 c18 c19 c21
  have c_tables := l_tables gl3 ls k l l1000 hrow c0 c2 c3 (.val (.int b)) (.val (.tup (IL d))) c7 c8 c9 c10 (.val (.tup (xs.map pgD))) c13 c14 c15 c16 c17 c18 c19 c21 n13
  obtain ⟨d13, d14, wb, nb⟩ := l_bounds gl3 ls k c0 c2 c3 (.val (.int b)) (.val (.tup (IL d))) (.val (.lst (l.map fun z => ptD z.p))) (.val (.lst (l.map Rw.t))) c8 c9 c10 (.val (.tup (xs.map pgD))) c15 c16 c17 c18 c19 c21 l c13 c14 hrow n13
  obtain ⟨r, gl4, cr, B4, rl⟩ := course_spec ls.length (by omega) gl3 B3
  have du := due_all F (by omega) r (by omega) gl4
  generalize hSN : (runS b xs l r ⟨0, []⟩).seen = SN at du
  have hSN' : ∀ j ∈ (runS b xs l r ⟨0, []⟩).seen, j ∈ SN := fun j m => hSN ▸ m
  have R0 := fun d => Rel.start (d := d) F h0
  have mk1 := make_spec d (xs.length : Nat) (l.map Rw.d) tb1 gl4
  obtain ⟨q1, td1, _⟩ := told_all F (R0 d) (get_end gl4 _) r (fun j _ => rdA j) (by omega)
  rw [set_end] at td1
  have B5 := bx_more B4 [cO q1]
  have sm1 := same_refl (gl4 ++ [cO q1]) 6 (.lst (runG b xs l r ⟨0, []⟩)) (.lst _ _ (by rw [runG_len]; omega) (pl_run 3 b xs l hps r _))
  generalize gl4 ++ [cO q1] = gl5 at *
  obtain ⟨bs, gl6, d17, d18, d21, wh, B6, fb, kb, hy⟩ := hu_loop SN c0 c2 c3 (.val (.int b)) (.val (.tup (IL d))) (.val (.lst (l.map fun z => ptD z.p))) (.val (.lst (l.map Rw.t))) (.val (.lst (r.map stD))) c10 (.val (.tup (xs.map pgD))) (.val (.tup (IL ls))) (d13) (d14) (.val (.lst (runG b xs l r ⟨0, []⟩))) c19 (parts b xs) (mss ls b xs) (-1) 0 hd gl5 c17 c18 c21 hg B5 (by rw [← ed]; omega)
  rw [← ed, hL] at wh
  rw [hL] at kb
  obtain ⟨tb2, rd2⟩ := good bs fb hy
  generalize hd ++ bs.flatten = d2 at *
  have mk2 := make_spec d2 (xs.length : Nat) (l.map Rw.d) tb2 gl6
  obtain ⟨q2, td2, _⟩ := told_all F (R0 d2) (get_end gl6 _) r (fun j m => rd2 j fun z hz => kb j z hz (by rw [Nat.zero_add]; exact hSN' j m)) (by omega)
  rw [set_end] at td2
  have B7 := bx_more B6 [cO q2]
  have sm2 := same_refl (gl6 ++ [cO q2]) 6 (.lst (runG b xs l r ⟨0, []⟩)) (.lst _ _ (by rw [runG_len]; omega) (pl_run 3 b xs l hps r _))
  generalize gl6 ++ [cO q2] = gl7 at *
  have mk3 := make_spec d (xs.length : Nat) (l.map Rw.d) tb1 gl7
  have b0' : bN b 0 = 0 := Nat.div_eq_of_lt (by omega)
  have R3 := R0 d
  rw [show ([] : List Nat) = List.range (bN b 0) by rw [b0']; rfl] at R3
  obtain ⟨q3, d10, ww, R4⟩ := walk_loop F rdA (i := gl7.length) c0 c2 (.val (.int b)) (.val (.tup (IL d))) (.val (.lst (l.map fun z => ptD z.p))) (.val (.lst (l.map Rw.t))) (.val (.lst (r.map stD))) (.own (.lst (IL d2))) (.val (.tup (xs.map pgD))) (.val (.tup (IL ls))) (d13) (d14) (.val (.lst (runG b xs l r ⟨0, []⟩))) (.val (.lst (IL (nI SN)))) (d17) (d18) (d21) xs.length 0 _ (gl7 ++ [cO _]) c10 (by omega) R3 (get_end gl7 _)
  rw [set_end] at ww
  have B8 := bx_more B7 [cO q3]
  have hq3 : q3.r = (l.length : Nat) := by
    rw [R4.r, F.len, parts_len b hb]
    show ((List.range (bN b xs.length)).length : Int) = _
    rw [List.length_range]
    rfl
  have rs3 := read_spec (get_end gl7 (cO q3))
  rw [hq3] at rs3
  have gc3 : (gl7 ++ [cO q3])[gl7.length]? = some (.ins "Cursor" (csF q3)) := get_end gl7 (cO q3)
  have sm3 := same_refl (gl7 ++ [cO q3]) 6 (.lst (xs.map pgD ++ [.tup [.non, .tup []]])) (.lst _ _ (by simp; omega) (pl_app (pl_pgs 2 xs hps) (.cons _ _ _ (.tup _ _ (by simp) (.cons _ _ _ (.non _) (.cons _ _ _ (.tup _ _ (by simp) (.nil _)) (.nil _)))) (.nil _))))
  have sm4 := same_refl (gl7 ++ [cO q3]) 6 (.int (l.length : Nat)) (.int _ _)
  generalize gl7 ++ [cO q3] = gl8 at *
  have zm := zip_map (fun z : Rw => ptD z.p) Rw.t l
  have lnl : ∀ s, fLen s (.d (.tup (IL ls))) = .ok (.d (.int ls.length)) s := fun s => by rw [q_lenT, List.length_map]
  have lnx : ∀ s, fLen s (.d (.tup (xs.map pgD))) = .ok (.d (.int xs.length)) s := fun s => by rw [q_lenT, List.length_map]
  have lnp : ∀ s, fLen s (.d (.lst (l.map fun z => ptD z.p))) = .ok (.d (.int l.length)) s := fun s => by rw [q_lenD, List.length_map]
  have fl : ∀ s, fList s (.d (.tup (IL d))) = .ok (.new (.lst (IL d))) s := fun s => rfl
  have flx : ∀ s, fList s (.d (.tup (xs.map pgD))) = .ok (.new (.lst (xs.map pgD))) s := fun s => rfl
  have ft : ∀ s, asLst s (.at 9) = some (IL d2) → fTuple s (.at 9) = .ok (.d (.tup (IL d2))) s := fun s h => by
    unfold fTuple asItems
    simp [h, asTup]
  have ix1 : ∀ s x y, opIx s (.d (.tup [x, y])) (.d (.int 1)) = .ok (.d y) s := fun s x y => q_ixT rfl
  have ad : ∀ s, opAdd s (.d (.lst (xs.map pgD))) (.new (.lst [.tup [.non, .tup []]])) = .ok (.new (.lst (xs.map pgD ++ [.tup [.non, .tup []]]))) s := fun s => q_addL rfl rfl (szN _ (by simp; omega))
  have rr : rng1 ((xs.length : Int) + 1) = some (rangeD 0 (xs.length + 1)) := by
    have := rng1_nat (n := xs.length + 1) (by omega)
    simpa using this
  simp only [Int.natCast_zero, List.take_zero, List.map_nil] at ww wh
  rw [hpt] at c_parts
  generalize (xs.map pgD ++ [.tup [.non, .tup []]]) = WW at *
  generalize (l.map fun z => D.tup [ptD z.p, z.t]) = ZL at *
  generalize (l.map fun z => ptD z.p) = PT at *
  generalize l.map Rw.t = TT at *
  generalize l.map Rw.d = RD at *
  generalize runG b xs l r ⟨0, []⟩ = G at *
  generalize IL (nI SN) = SL at *
  generalize r.map stD = RS at *
  generalize IL d2 = D2 at *
  generalize IL d = DI at *
  generalize IL ls = LD at *
  generalize xs.map pgD = XD at *
  refine ⟨.val (.tup XD), .val (.tup LD), .val (.int b), .val (.tup DI), .val (.lst PT), .val (.lst TT), d13, d14, .val (.lst RS), .val (.lst G), .val (.lst SL), .own (.lst D2), d17, d18, d21, .val (.ref gl7.length), .val (.lst WW), d10, gl8, ?_, nb, B8⟩
  unfold l_law_10
  refine (seq_nx (s1 := ⟨[c0, .val (.ref 1), c2, c3, c4, c5, c6, c7, c8, c9, c10, .val (.tup XD), .val (.tup LD), c13, c14, c15, c16, c17, c18, c19, .none, c21, .none, .none], gl1⟩) (by simp [d1, pr, as_d])).trans ?_
  refine (seq_nx (s1 := ⟨[c0, .val (.ref 1), c2, c3, .val (.int b), c5, c6, c7, c8, c9, c10, .val (.tup XD), .val (.tup LD), c13, c14, c15, c16, c17, c18, c19, .none, c21, .none, .none], gl2⟩) (by simp [d2', hbe, as_d])).trans ?_
  refine (seq_nx (s1 := ⟨[c0, .val (.ref 1), c2, c3, .val (.int b), .val (.tup DI), c6, c7, c8, c9, c10, .val (.tup XD), .val (.tup LD), c13, c14, c15, c16, c17, c18, c19, .none, c21, .none, .none], gl3⟩) (by simp [w1, as_d])).trans ?_
  refine (seq_nx (s1 := ⟨[c0, .val (.ref 1), c2, c3, .val (.int b), .val (.tup DI), .own (.lst PT), c7, c8, c9, c10, .val (.tup XD), .val (.tup LD), c13, c14, c15, c16, c17, c18, c19, .none, c21, .none, .none], gl3⟩) (by simp [-ap_Comp, c_parts, as_new])).trans ?_
  refine (seq_nx (s1 := ⟨[c0, .val (.ref 1), c2, c3, .val (.int b), .val (.tup DI), .val (.lst PT), .own (.lst TT), c8, c9, c10, .val (.tup XD), .val (.tup LD), c13, c14, c15, c16, c17, c18, c19, .none, c21, .none, .none], gl3⟩) (by simp [-ap_Comp, c_tables, as_new])).trans ?_
  refine (seq_nx (s1 := ⟨[c0, .val (.ref 1), c2, c3, .val (.int b), .val (.tup DI), .val (.lst PT), .val (.lst TT), c8, c9, c10, .val (.tup XD), .val (.tup LD), d13, d14, c15, c16, c17, c18, c19, .none, c21, .none, .none], gl3⟩) (by simp [iZipM, zm, wb])).trans ?_
  refine (seq_nx (s1 := ⟨[c0, .val (.ref 1), c2, c3, .val (.int b), .val (.tup DI), .val (.lst PT), .val (.lst TT), .val (.lst RS), c9, c10, .val (.tup XD), .val (.tup LD), d13, d14, c15, c16, c17, c18, c19, .none, c21, .none, .none], gl4⟩) (by simp [lnl, cr, as_d])).trans ?_
  refine (seq_nx (s1 := ⟨[c0, .val (.ref 1), c2, c3, .val (.int b), .val (.tup DI), .val (.lst PT), .val (.lst TT), .val (.lst RS), c9, c10, .val (.tup XD), .val (.tup LD), d13, d14, .val (.lst G), .val (.lst SL), c17, c18, c19, .none, c21, .none, .none], gl4⟩) (by simp [du, as_d])).trans ?_
  refine (seq_nx (s1 := ⟨[c0, .val (.ref 1), c2, c3, .val (.int b), .val (.tup DI), .val (.lst PT), .val (.lst TT), .val (.lst RS), c9, c10, .val (.tup XD), .val (.tup LD), d13, d14, .val (.lst G), .val (.lst SL), c17, c18, c19, .none, c21, .none, .none], gl5⟩) (by simp [mk1, td1, sm1, asD, truthD])).trans ?_
  refine (seq_nx (s1 := ⟨[c0, .val (.ref 1), c2, c3, .val (.int b), .val (.tup DI), .val (.lst PT), .val (.lst TT), .val (.lst RS), .own (.lst DI), c10, .val (.tup XD), .val (.tup LD), d13, d14, .val (.lst G), .val (.lst SL), c17, c18, c19, .none, c21, .none, .none], gl5⟩) (by simp [fl, as_new])).trans ?_
  refine (seq_nx (s1 := ⟨[c0, .val (.ref 1), c2, c3, .val (.int b), .val (.tup DI), .val (.lst PT), .val (.lst TT), .val (.lst RS), .own (.lst D2), c10, .val (.tup XD), .val (.tup LD), d13, d14, .val (.lst G), .val (.lst SL), d17, d18, c19, .none, d21, .none, .none], gl6⟩) (by simp [iEnumM, tb1, ix1, wh])).trans ?_
  refine (seq_nx (s1 := ⟨[c0, .val (.ref 1), c2, c3, .val (.int b), .val (.tup DI), .val (.lst PT), .val (.lst TT), .val (.lst RS), .own (.lst D2), c10, .val (.tup XD), .val (.tup LD), d13, d14, .val (.lst G), .val (.lst SL), d17, d18, c19, .none, d21, .none, .none], gl7⟩) (by simp [ft, asLst, mk2, td2, sm2, asD, truthD])).trans ?_
  refine (seq_nx (s1 := ⟨[c0, .val (.ref 1), c2, .val (.ref gl7.length), .val (.int b), .val (.tup DI), .val (.lst PT), .val (.lst TT), .val (.lst RS), .own (.lst D2), c10, .val (.tup XD), .val (.tup LD), d13, d14, .val (.lst G), .val (.lst SL), d17, d18, .own (.lst []), .none, d21, .none, .none], gl7 ++ [cO ⟨d, (xs.length : Nat), RD, 0, 0, .non, 0⟩]⟩) (by simp [mk3, as_d, as_new])).trans ?_
  refine (seq_nx (s1 := ⟨[c0, .val (.ref 1), c2, .val (.ref gl7.length), .val (.int b), .val (.tup DI), .val (.lst PT), .val (.lst TT), .val (.lst RS), .own (.lst D2), d10, .val (.tup XD), .val (.tup LD), d13, d14, .val (.lst G), .val (.lst SL), d17, d18, .own (.lst WW), .none, d21, .none, .none], gl8⟩) (by simp [lnx, rr, ww])).trans ?_
  simp [flx, ad, sm3, gc3, rs3, lnp, sm4, asD, truthD]
theorem turns_loop (c0 : Slot) : ∀ (L : List D) (gl : List MObj) (c2 c3 c4 c5 c6 c7 c8 c9 c10 c11 c12 c13 c14 c15 c16 c17 c18 c19 c21 : Slot), Bx gl → NoO c13 →
    ∃ d2 d3 d4 d5 d6 d7 d8 d9 d10 d11 d12 d13 d14 d15 d16 d17 d18 d19 d21 gl', forGo (tgName 2) l_law_10 L ⟨[c0, .val (.ref 1), c2, c3, c4, c5, c6, c7, c8, c9, c10, c11, c12, c13, c14, c15, c16, c17, c18, c19, .none, c21, .none, .none], gl⟩ = .ok .nx ⟨[c0, .val (.ref 1), d2, d3, d4, d5, d6, d7, d8, d9, d10, d11, d12, d13, d14, d15, d16, d17, d18, d19, .none, d21, .none, .none], gl'⟩ ∧ Bx gl'
  | [], gl, c2, c3, c4, c5, c6, c7, c8, c9, c10, c11, c12, c13, c14, c15, c16, c17, c18, c19, c21, hB, _ => ⟨c2, c3, c4, c5, c6, c7, c8, c9, c10, c11, c12, c13, c14, c15, c16, c17, c18, c19, c21, gl, rfl, hB⟩
  | d :: L, gl, c2, c3, c4, c5, c6, c7, c8, c9, c10, c11, c12, c13, c14, c15, c16, c17, c18, c19, c21, hB, n13 => by
    obtain ⟨g11, g12, g4, g5, g6, g7, g13, g14, g8, g15, g16, g9, g17, g18, g21, g3, g19, g10, gl1, st, k13, B1⟩ := turn gl hB c0 (.val d) c3 c4 c5 c6 c7 c8 c9 c10 c11 c12 c13 c14 c15 c16 c17 c18 c19 c21 n13
    obtain ⟨h2, h3, h4, h5, h6, h7, h8, h9, h10, h11, h12, h13, h14, h15, h16, h17, h18, h19, h21, gl', w, B'⟩ := turns_loop c0 L gl1 (.val d) g3 g4 g5 g6 g7 g8 g9 g10 g11 g12 g13 g14 g15 g16 g17 g18 g19 g21 B1 k13
    refine ⟨h2, h3, h4, h5, h6, h7, h8, h9, h10, h11, h12, h13, h14, h15, h16, h17, h18, h19, h21, gl', ?_, B'⟩
    exact (fc_ok (by rw [ap_tgName, as_d (by simp)]; rfl) st).trans w
/-! ### four postings -/
def v1 : Pg := ⟨0, [1]⟩
def v2 : Pg := ⟨2, [5]⟩
def v3 : Pg := ⟨4, [0]⟩
def v4 : Pg := ⟨7, [1, 2]⟩
theorem v_sm : ∀ x ∈ [v1, v2, v3, v4], Sm [3, 0, 1, 0, 1, 0, 0, 9] 8 x := by
  intro x m
  simp only [List.mem_cons, List.not_mem_nil, or_false] at m
  rcases m with rfl | rfl | rfl | rfl
  · exact ⟨⟨by simp [v1], by simp [v1, AscI]⟩, by simp [v1], by simp [v1], by simp [v1], by simp [v1], rfl, by simp [v1, lv], by simp [v1, lv]⟩
  · exact ⟨⟨by simp [v2], by simp [v2, AscI]⟩, by simp [v2], by simp [v2], by simp [v2], by simp [v2], rfl, by simp [v2, lv], by simp [v2, lv]⟩
  · exact ⟨⟨by simp [v3], by simp [v3, AscI]⟩, by simp [v3], by simp [v3], by simp [v3], by simp [v3], rfl, by simp [v3, lv], by simp [v3, lv]⟩
  · exact ⟨⟨by simp [v4], by simp [v4, AscI]⟩, by simp [v4], by simp [v4], by simp [v4], by simp [v4], rfl, by simp [v4, lv], by simp [v4, lv]⟩
theorem plain : ∀ ns : List Int, ns.length ≤ 63 → ∃ gl, f_law [.scr (ns.map D.int)] [] = .ok (.bl true) gl := by
  intro ns _
  obtain ⟨gl, hb, hB⟩ := box_spec ns
  obtain ⟨h2, h3, h4, h5, h6, h7, h8, h9, h10, h11, h12, h13, h14, h15, h16, h17, h18, h19, h21, gl1, w, B1⟩ := turns_loop (.val (.scr (ns.map D.int))) (rangeD 0 5) gl .none .none .none .none .none .none .none .none .none .none .none .none .none .none .none .none .none .none .none hB no_none
  have ha : AscI (-1) ([v1, v2, v3, v4].map (·.n)) := by simp [v1, v2, v3, v4, AscI]
  obtain ⟨m1, w1⟩ := write_postings_spec [3, 0, 1, 0, 1, 0, 0, 9] 8 (by omega) (.tup (IL [3, 0, 1, 0, 1, 0, 0, 9])) (.inl rfl) [v1, v2, v3, v4] 2 (by omega) (by omega) ha v_sm (by simp) gl1
  have hg := gps_drawn [3, 0, 1, 0, 1, 0, 0, 9] 8 2 (by omega) [v1, v2, v3, v4] (-1) ha v_sm
  have hlen := dat_le (ls := [3, 0, 1, 0, 1, 0, 0, 9]) (lo := 8) (by omega) [v1, v2, v3, v4] 2 (by omega) (by omega) ha v_sm (by simp)
  obtain ⟨F, good⟩ := good21 [v1, v2, v3, v4] 2 (by omega) (mss [3, 0, 1, 0, 1, 0, 0, 9] 2 [v1, v2, v3, v4]) hg ha (by simp) (by simp only [List.length_cons, List.length_nil] at hlen; omega)
  have t2 : ∀ z ∈ rws (hdr [v1, v2, v3, v4] 2 (mss [3, 0, 1, 0, 1, 0, 0, 9] 2 [v1, v2, v3, v4])).length (-1) (parts 2 [v1, v2, v3, v4]) (mss [3, 0, 1, 0, 1, 0, 0, 9] 2 [v1, v2, v3, v4]), z.t2 = lsP [3, 0, 1, 0, 1, 0, 0, 9] z.p := rws_t2 (lsP [3, 0, 1, 0, 1, 0, 0, 9]) (parts 2 [v1, v2, v3, v4]) _ _
  have bg := bks_get (parts 2 [v1, v2, v3, v4]) (-1) (mss [3, 0, 1, 0, 1, 0, 0, 9] 2 [v1, v2, v3, v4]) (hdr [v1, v2, v3, v4] 2 (mss [3, 0, 1, 0, 1, 0, 0, 9] 2 [v1, v2, v3, v4])).length hg
  have g1 := good (bks (-1) (parts 2 [v1, v2, v3, v4])) (bks_fit _ _) (by rw [bks_flat]; exact byt_bd _ _)
  rw [bks_flat, ← datP_hdr] at g1
  obtain ⟨tb1, rd1⟩ := g1
  have rdA := fun j => rd1 j fun z hz => bg j z hz
  generalize datP [v1, v2, v3, v4] 2 (mss [3, 0, 1, 0, 1, 0, 0, 9] 2 [v1, v2, v3, v4]) = d at *
  generalize rws (hdr [v1, v2, v3, v4] 2 (mss [3, 0, 1, 0, 1, 0, 0, 9] 2 [v1, v2, v3, v4])).length (-1) (parts 2 [v1, v2, v3, v4]) (mss [3, 0, 1, 0, 1, 0, 0, 9] 2 [v1, v2, v3, v4]) = l at *
  generalize gl1 ++ m1 = gl2 at w1
  have h0 : ∀ x ∈ [v1, v2, v3, v4], 0 ≤ x.n := fun x m => (v_sm x m).2.2.2.1
  have R0 := Rel.start (d := d) F h0
  have mk1 := make_spec d (([v1, v2, v3, v4] : List Pg).length : Nat) (l.map Rw.d) tb1 gl2
  generalize (⟨d, (([v1, v2, v3, v4] : List Pg).length : Nat), l.map Rw.d, 0, 0, .non, 0⟩ : Cs) = q0 at R0 mk1
  have e0 : (gl2 ++ [cO q0])[gl2.length]? = some (cO q0) := get_end _ _
  have f0 : (gl2 ++ [cO q0])[gl2.length]? = some (.ins "Cursor" (csF q0)) := e0
  obtain ⟨q1, sk1, R1⟩ := R0.sought F e0 5
  rw [set_end] at sk1
  have ek : sk 5 [v1, v2, v3, v4] (St.a ⟨0, []⟩) = 3 := rfl
  rw [ek] at R1
  have e1 : (gl2 ++ [cO q1])[gl2.length]? = some (cO q1) := get_end _ _
  have f1 : (gl2 ++ [cO q1])[gl2.length]? = some (.ins "Cursor" (csF q1)) := e1
  have rs1 := read_spec e1
  have hr1 : q1.r = 0 := R1.r
  rw [hr1] at rs1
  have td1 := R1.told F e1
  obtain ⟨z, hz⟩ := F.has (k := 1) (by simp)
  have et : (if (St.a ⟨3, []⟩) < ([v1, v2, v3, v4] : List Pg).length then rowT l ((St.a ⟨3, []⟩) / 2) else .non) = .tup [.int 7, .int 2, .int 1] := by
    have g := F.hg z (List.mem_of_getElem? hz)
    have gp := (F.get hz).2
    have gp : z.p = [v3, v4] := gp
    have gt := t2 z (List.mem_of_getElem? hz)
    obtain ⟨_, _, a3, a4, _⟩ := g
    rw [gp] at a3 a4 gt
    show (if 3 < 4 then rowT l 1 else .non) = _
    rw [if_pos (by omega)]
    unfold rowT
    rw [hz]
    show Rw.t z = _
    unfold Rw.t
    rw [a3, a4, gt]
    rfl
  rw [et] at td1
  obtain ⟨q2, nu, R2⟩ := R1.number F e1 (fun j _ => rdA j)
  rw [set_end] at nu
  have en : numD (([v1, v2, v3, v4] : List Pg).drop (St.a ⟨3, []⟩)) = .int 7 := rfl
  rw [en] at nu
  have e2 : (gl2 ++ [cO q2])[gl2.length]? = some (cO q2) := get_end _ _
  have f2 : (gl2 ++ [cO q2])[gl2.length]? = some (.ins "Cursor" (csF q2)) := e2
  have rs2 := read_spec e2
  have hr2 : q2.r = 1 := R2.r
  rw [hr2] at rs2
  have sm := same_refl (gl2 ++ [cO q2]) 6 (.tup [.int 0, .tup [.int 7, .int 2, .int 1], .int 7, .int 1]) (.tup _ _ (by simp) (.cons _ _ _ (.int _ _) (.cons _ _ _ (.tup _ _ (by simp) (.cons _ _ _ (.int _ _) (.cons _ _ _ (.int _ _) (.cons _ _ _ (.int _ _) (.nil _))))) (.cons _ _ _ (.int _ _) (.cons _ _ _ (.int _ _) (.nil _))))))
  have w1 : f_write_postings [.tup [.tup [.int 0, .tup [.int 1]], .tup [.int 2, .tup [.int 5]], .tup [.int 4, .tup [.int 0]], .tup [.int 7, .tup [.int 1, .int 2]]], .tup [.int 3, .int 0, .int 1, .int 0, .int 1, .int 0, .int 0, .int 9], .int 2] gl1 = .ok (.tup (IL d)) gl2 := w1
  have hr : rng1 5 = some (rangeD 0 5) := rng1_ok (by omega) (by omega)
  have sz8 : 8 ≤ sizeLine := szN _ (by omega)
  generalize IL d = DI at *
  generalize gl2 ++ [cO q0] = ga at *
  generalize gl2 ++ [cO q1] = gb at *
  generalize gl2 ++ [cO q2] = gc at *
  refine ⟨gc, ?_⟩
  simp [f_law, mDef, List.replicate, b_law, hb, as_d, hr, w, w1, sz8, mk1, f0, sk1, f1, rs1, td1, nu, f2, rs2, sm]
end K21
namespace K21
open PySem PySem.Spec PyProof.Rows L2 MI
theorem bbs_BadBytes : BbS PySem.Challenge.pw_postingstold_k21_whole_cursors_that_skip (defArgs (mt 2 0)) (defScope (mt 2 0)) (bbOf (defBody (mt 2 0))) "place" "BadBytes.__init__" := ⟨by decide +kernel, fun env h => ⟨_, by cases env; cases h; rfl⟩, fun env h => (by cases env; cases h; exact ⟨rfl, rfl, rfl⟩), fun env h => (by cases env; cases h; exact ⟨rfl, rfl⟩), ⟨_, rfl, rfl⟩, fun _ _ _ _ _ _ _ _ => rfl, rfl, rfl, rfl, by decide +kernel, by decide +kernel, by decide +kernel, by decide +kernel, by decide +kernel, by decide +kernel, by decide +kernel⟩
def hdFa : List He.Fa := [.free "len", .glo "byte_at", .int "GROUP" 128, .glo "number_bytes", .glo "read_number", .glo "numbers_bytes", .glo "read_numbers", .glo "gaps_of", .glo "numbers_of", .glo "gap_bytes", .glo "read_gaps", .free "range", .glo "blocks_of", .glo "block_bytes", .free "max", .free "min", .glo "told_of_block", .free "tuple", .glo "write_postings", .glo "read_table", .glo "read_block", .free "list", .glo "_law_box", .free "int", .glo "_law_load", .glo "_law_draw", .free "isinstance", .free "str", .free "bool", .free "all", .glo "_law_same", .glo "_law_postings", .glo "_law_course", .cls "Cursor", .noat "Cursor" "_read", .meth "Cursor" "blocks_read", .noat "Cursor" "_opened", .noat "Cursor" "_least", .noat "Cursor" "_data", .noat "Cursor" "_table", .noat "Cursor" "_block", .meth "Cursor" "_postings", .meth "Cursor" "number", .meth "Cursor" "places", .meth "Cursor" "_enter", .meth "Cursor" "seek", .meth "Cursor" "next", .meth "Cursor" "block_told", .meth "Cursor" "told_from", .noat "Cursor" "_many", .meth "Cursor" "count", .glo "_law_told", .glo "_law_due", .mkr "Cursor", .glo "Cursor", .free "enumerate", .free "zip", .free "any", .glo "law"]
def hdFn : List He.DefD := [⟨("byte_at", none), "byte_at", "byte_at", defArgs (tp 5), defBody (tp 5), defScope (tp 5), [], []⟩, ⟨("number_bytes", none), "number_bytes", "number_bytes", defArgs (tp 6), defBody (tp 6), defScope (tp 6), [], []⟩, ⟨("read_number", none), "read_number", "read_number", defArgs (tp 7), defBody (tp 7), defScope (tp 7), [], []⟩, ⟨("numbers_bytes", none), "numbers_bytes", "numbers_bytes", defArgs (tp 8), defBody (tp 8), defScope (tp 8), [], []⟩, ⟨("read_numbers", none), "read_numbers", "read_numbers", defArgs (tp 9), defBody (tp 9), defScope (tp 9), [], []⟩, ⟨("gaps_of", none), "gaps_of", "gaps_of", defArgs (tp 10), defBody (tp 10), defScope (tp 10), [], []⟩, ⟨("numbers_of", none), "numbers_of", "numbers_of", defArgs (tp 11), defBody (tp 11), defScope (tp 11), [], []⟩, ⟨("gap_bytes", none), "gap_bytes", "gap_bytes", defArgs (tp 12), defBody (tp 12), defScope (tp 12), [], []⟩, ⟨("read_gaps", none), "read_gaps", "read_gaps", defArgs (tp 13), defBody (tp 13), defScope (tp 13), [], []⟩, ⟨("blocks_of", none), "blocks_of", "blocks_of", defArgs (tp 15), defBody (tp 15), defScope (tp 15), [], []⟩, ⟨("block_bytes", none), "block_bytes", "block_bytes", defArgs (tp 16), defBody (tp 16), defScope (tp 16), [], []⟩, ⟨("told_of_block", none), "told_of_block", "told_of_block", defArgs (tp 17), defBody (tp 17), defScope (tp 17), [], []⟩, ⟨("write_postings", none), "write_postings", "write_postings", defArgs (tp 18), defBody (tp 18), defScope (tp 18), [], []⟩, ⟨("read_table", none), "read_table", "read_table", defArgs (tp 19), defBody (tp 19), defScope (tp 19), [], []⟩, ⟨("read_block", none), "read_block", "read_block", defArgs (tp 20), defBody (tp 20), defScope (tp 20), [], []⟩, ⟨("_law_box", none), "_law_box", "_law_box", defArgs (tp 24), defBody (tp 24), defScope (tp 24), [], []⟩, ⟨("_law_load", none), "_law_load", "_law_load", defArgs (tp 25), defBody (tp 25), defScope (tp 25), [], []⟩, ⟨("_law_draw", none), "_law_draw", "_law_draw", defArgs (tp 26), defBody (tp 26), defScope (tp 26), [], []⟩, ⟨("_law_same", none), "_law_same", "_law_same", defArgs (tp 27), defBody (tp 27), defScope (tp 27), [], []⟩, ⟨("_law_postings", none), "_law_postings", "_law_postings", defArgs (tp 28), defBody (tp 28), defScope (tp 28), [], []⟩, ⟨("_law_course", none), "_law_course", "_law_course", defArgs (tp 29), defBody (tp 29), defScope (tp 29), [], []⟩, ⟨("Cursor", some "blocks_read"), "blocks_read", "Cursor.blocks_read", defArgs (mt 22 10), defBody (mt 22 10), defScope (mt 22 10), [], []⟩, ⟨("Cursor", some "_postings"), "_postings", "Cursor._postings", defArgs (mt 22 2), defBody (mt 22 2), defScope (mt 22 2), [], []⟩, ⟨("Cursor", some "number"), "number", "Cursor.number", defArgs (mt 22 4), defBody (mt 22 4), defScope (mt 22 4), [], []⟩, ⟨("Cursor", some "places"), "places", "Cursor.places", defArgs (mt 22 5), defBody (mt 22 5), defScope (mt 22 5), [], []⟩, ⟨("Cursor", some "_enter"), "_enter", "Cursor._enter", defArgs (mt 22 1), defBody (mt 22 1), defScope (mt 22 1), [], []⟩, ⟨("Cursor", some "seek"), "seek", "Cursor.seek", defArgs (mt 22 7), defBody (mt 22 7), defScope (mt 22 7), [], []⟩, ⟨("Cursor", some "next"), "next", "Cursor.next", defArgs (mt 22 6), defBody (mt 22 6), defScope (mt 22 6), [], []⟩, ⟨("Cursor", some "block_told"), "block_told", "Cursor.block_told", defArgs (mt 22 8), defBody (mt 22 8), defScope (mt 22 8), [], []⟩, ⟨("Cursor", some "told_from"), "told_from", "Cursor.told_from", defArgs (mt 22 9), defBody (mt 22 9), defScope (mt 22 9), [], []⟩, ⟨("Cursor", some "count"), "count", "Cursor.count", defArgs (mt 22 3), defBody (mt 22 3), defScope (mt 22 3), [], []⟩, ⟨("_law_told", none), "_law_told", "_law_told", defArgs (tp 30), defBody (tp 30), defScope (tp 30), [], []⟩, ⟨("_law_due", none), "_law_due", "_law_due", defArgs (tp 31), defBody (tp 31), defScope (tp 31), [], []⟩, ⟨("Cursor", some "__init__"), "__init__", "Cursor.__init__", defArgs (mt 22 0), defBody (mt 22 0), defScope (mt 22 0), [], []⟩, ⟨("law", none), "law", "law", defArgs (tp 32), defBody (tp 32), defScope (tp 32), [], []⟩]
def hdIn : List InD := [⟨"BadBytes", "place", "BadBytes.__init__", defArgs (mt 2 0), bbOf (defBody (mt 2 0)), defScope (mt 2 0)⟩]
def hdTu : List (Str × List He.Dv) := []
def hd : HdX := ⟨4, PySem.Challenge.pw_postingstold_k21_whole_cursors_that_skip.main.file, hdFa, hdFn, hdIn, hdTu⟩
def loose0 : List Str := ["GROUP", "FindError", "BadBytes", "Cursor", "byte_at", "number_bytes", "read_number", "numbers_bytes", "read_numbers", "gaps_of", "numbers_of", "gap_bytes", "read_gaps", "blocks_of", "block_bytes", "told_of_block", "write_postings", "read_table", "read_block", "_law_box", "_law_load", "_law_draw", "_law_same", "_law_postings", "_law_course", "_law_told", "_law_due"]
def loose : List Str := loose0
abbrev R : PySem.W.OpenRow := PySem.W.OpenLaw.row PySem.Challenge.rw_postingstold_k21_whole_cursors_that_skip
theorem run (w : World) : HandSHeadRun.RunEq R (PySem.W.view R.prog [32]) hd.hook hd.ob 4000 loose w := by
  intro os
  kernel_rfl
theorem facts {K : PySem.W.Frag} {h : Heap} {mg : Str → Option Value} (X : K.In h) (G : h.Ns mainGlobals mg) (c : hd.says K) : Fx PySem.Challenge.pw_postingstold_k21_whole_cursors_that_skip K mg where
  g_len := c.free X G 0
  x_BadBytes := c.exc rfl X G 0 bbs_BadBytes
  d_byte_at := c.def_ X G 0 1
  v_GROUP := c.gint X G 2
  d_number_bytes := c.def_ X G 1 3
  d_read_number := c.def_ X G 2 4
  d_numbers_bytes := c.def_ X G 3 5
  d_read_numbers := c.def_ X G 4 6
  d_gaps_of := c.def_ X G 5 7
  d_numbers_of := c.def_ X G 6 8
  d_gap_bytes := c.def_ X G 7 9
  d_read_gaps := c.def_ X G 8 10
  g_range := c.free X G 11
  d_blocks_of := c.def_ X G 9 12
  d_block_bytes := c.def_ X G 10 13
  g_max := c.free X G 14
  g_min := c.free X G 15
  d_told_of_block := c.def_ X G 11 16
  g_tuple := c.free X G 17
  d_write_postings := c.def_ X G 12 18
  d_read_table := c.def_ X G 13 19
  d_read_block := c.def_ X G 14 20
  g_list := c.free X G 21
  d__law_box := c.def_ X G 15 22
  g_int := c.free X G 23
  d__law_load := c.def_ X G 16 24
  d__law_draw := c.def_ X G 17 25
  g_isinstance := c.free X G 26
  g_str := c.free X G 27
  g_bool := c.free X G 28
  g_all := c.free X G 29
  d__law_same := c.def_ X G 18 30
  d__law_postings := c.def_ X G 19 31
  d__law_course := c.def_ X G 20 32
  c_Cursor := c.cls 33
  n_Cursor__read := c.noat 34
  d_Cursor_blocks_read := c.mt_ 21 35
  n_Cursor__opened := c.noat 36
  n_Cursor__least := c.noat 37
  n_Cursor__data := c.noat 38
  n_Cursor__table := c.noat 39
  n_Cursor__block := c.noat 40
  d_Cursor__postings := c.mt_ 22 41
  d_Cursor_number := c.mt_ 23 42
  d_Cursor_places := c.mt_ 24 43
  d_Cursor__enter := c.mt_ 25 44
  d_Cursor_seek := c.mt_ 26 45
  d_Cursor_next := c.mt_ 27 46
  d_Cursor_block_told := c.mt_ 28 47
  d_Cursor_told_from := c.mt_ 29 48
  n_Cursor__many := c.noat 49
  d_Cursor_count := c.mt_ 30 50
  d__law_told := c.def_ X G 31 51
  d__law_due := c.def_ X G 32 52
  d_Cursor___init__ := c.mk_ X G 33 53 54
  g_enumerate := c.free X G 55
  g_zip := c.free X G 56
  g_any := c.free X G 57
  d_law := c.def_ X G 34 58
end K21
open PySem PySem.W PySem.Calls PyProof.Rows MI in
theorem PySem.Challenge.cw_postingstold_k21_whole_cursors_that_skip_holds : PySem.Challenge.rw_postingstold_k21_whole_cursors_that_skip.Holds := by
  w_on; o_law
  refine HandSHeadRun.head_any (r := K21.R) (q := view K21.R.prog [32]) (H := K21.hd.hook) (ob := K21.hd.ob) (M := 4000) (loose := K21.loose) (d := HandSHeadRun.topDef K21.R.prog 32) (kwd := []) K21.hd.ob_eq
    (by kernel_rfl) (fun s => by kernel_rfl) K21.run (by kernel_rfl) (by kernel_rfl) (by kernel_rfl) (by rfl) (by first | assumption | decide +kernel) (by decide +kernel) ⟨rfl, rfl, rfl, rfl, rfl, by decide +kernel⟩ ?hw ?hc
  case hw => w_witness2
  case hc =>
    refine L2.walk_ofE (l := PySem.Challenge.rw_postingstold_k21_whole_cursors_that_skip) (n := 63) (k := 13) (x := "script") (CX := CXw PySem.Challenge.pw_postingstold_k21_whole_cursors_that_skip) rfl (by decide) (by kernel_rfl) ⟨rfl, by decide, by decide⟩ ?F law_out
    intro w mg fa h Y G hmg0
    obtain ⟨K, KX, c⟩ := Y
    have hmg : mg ("law" : PySem.Str) = some (.ref fa) := by
      have e : (HandSHeadRun.topDef K21.R.prog 32).name = ("law" : PySem.Str) := by kernel_rfl
      rw [← e]
      exact hmg0
    exact law_end KX hmg (fun base => K21.F_law (K21.facts KX G c)) K21.plain
