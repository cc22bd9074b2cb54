import PyProof.Rows.All
import Wide.All
import OpenK.AllK
import Wide.FinOn
import HandS.ForMost
import HandS.ForExc
import HandS.Head0
import HandS.Head1
import HandS.Head2
import HandS.HeadEnd
import HandS.HeadHook1
import HandS.HeadHook2
import HandS.TupAny
import HandS.Wide
import HandS.TupLe
import HandS.Deep
import PyProof.NeData
import HandS.Defaults
import HandS.ExcOwn
import HandS.Style
import HandS.IsInst
import HandS.Flt
import HandS.More
import HandS.Replace
import HandS.TupMul
import HandS.Small
import PyProof.StrOps2
import HandS.ExcInit
import HandS.ExcField
import KE.KExcSuper
import HandS.Text
import HandS.Strs
import HandS.TryOnly
import HandS.SortInts
import PyProof.Rows.StrMeet
import HandS.Set
import HandS.SetFor
import HandS.SetKeys
import PyProof.Rows.SortShellAny
import HandS.Zip
import KE.GoesRaise
import HandS.ListItems
import PySem.Challenge.RW_postingstold_k11_whole_scores
set_option Elab.async false
set_option linter.all false
set_option maxRecDepth 100000
set_option maxHeartbeats 4000000
/-! # The mirror layer: data trees over the hand layer's heap -/
namespace MI
open PySem L2

/-- data: what a value is, lists and dicts in it never change any more; ref: an object of the shared store; scr: the law's own script -/
inductive D where
  | non | bl (b : Bool) | int (i : Int) | str (x : Str)
  | tup (xs : List D) | lst (xs : List D) | dic (kvs : List (Key × D)) | ref (n : Nat) | scr (xs : List D)
  deriving Inhabited

/-- an object that may change -/
inductive MObj where
  | lst (xs : List D) | dic (kvs : List (Key × D)) | ins (c : Str) (fs : List (Str × D))
  deriving Inhabited
inductive Slot where
  | none | val (x : D) | own (o : MObj)
  deriving Inhabited
structure S where
  env : List Slot
  gl : List MObj
inductive Loc where
  | sl (i : Nat) | gl (n : Nat)
  deriving DecidableEq
/-- a value of an expression: data; the object that a slot owns; a new object -/
inductive RV where
  | d (x : D) | at (i : Nat) | new (o : MObj)
inductive Res (α : Type) where
  | ok (a : α) (s : S) | exc (c : Str) (p : D) (s : S) | stuck
inductive Out where
  | nx | rt (x : D) | bk | ct

def cellOf (s : S) : Loc → Option MObj
  | .sl i => match s.env[i]? with
    | some (.own o) => some o
    | _ => none
  | .gl n => s.gl[n]?

/-- what stands unchanged for good; what is another one's; where the objects are, how many are shared -/
structure G where
  F : Hp
  P : Addr → Prop
  adr : Loc → Addr
  ng : Nat

mutual
inductive Rep (K : PySem.W.Frag) (g : G) : V → D → Prop
  | non : Rep K g .non .non
  | bl (b : Bool) : Rep K g (.bl b) (.bl b)
  | int (i : Int) : Rep K g (.int i) (.int i)
  | str (x : Str) : Rep K g (.str x) (.str x)
  | tup {a : Addr} {vs : List V} {ds : List D} : SqT K g.F a vs → RepL K g vs ds → Rep K g (.ref a) (.tup ds)
  | lst {a : Addr} {vs : List V} {ds : List D} : g.F a = some (.lst vs) → RepL K g vs ds → Rep K g (.ref a) (.lst ds)
  | dic {a : Addr} {kvs : List (Key × V)} {ds : List (Key × D)} : g.F a = some (.dK kvs) → RepK K g kvs ds → Rep K g (.ref a) (.dic ds)
  | ref (n : Nat) : n < g.ng → Rep K g (.ref (g.adr (.gl n))) (.ref n)
  | scr {a : Addr} {vs : List V} {ds : List D} : SqL K g.F a vs → RepL K g vs ds → Rep K g (.ref a) (.scr ds)
inductive RepL (K : PySem.W.Frag) (g : G) : List V → List D → Prop
  | nil : RepL K g [] []
  | cons {v : V} {vs : List V} {d : D} {ds : List D} : Rep K g v d → RepL K g vs ds → RepL K g (v :: vs) (d :: ds)
inductive RepK (K : PySem.W.Frag) (g : G) : List (Key × V) → List (Key × D) → Prop
  | nil : RepK K g [] []
  | cons {k : Key} {v : V} {vs : List (Key × V)} {d : D} {ds : List (Key × D)} : Rep K g v d → RepK K g vs ds → RepK K g ((k, v) :: vs) ((k, d) :: ds)
end
inductive RepF (K : PySem.W.Frag) (g : G) : List (Str × V) → List (Str × D) → Prop
  | nil : RepF K g [] []
  | cons {k : Str} {v : V} {vs : List (Str × V)} {d : D} {ds : List (Str × D)} : Rep K g v d → RepF K g vs ds → RepF K g ((k, v) :: vs) ((k, d) :: ds)

def Sub (F H : Hp) : Prop := ∀ a o, F a = some o → H a = some o
theorem Sub.refl (F : Hp) : Sub F F := fun _ _ e => e
theorem Sub.trans {F G H : Hp} (a : Sub F G) (b : Sub G H) : Sub F H := fun x o e => b x o (a x o e)
/-- the later ghost -/
structure GLe (g g' : G) : Prop where
  F : Sub g.F g'.F
  ng : g.ng ≤ g'.ng
  adr : ∀ n, n < g.ng → g'.adr (.gl n) = g.adr (.gl n)
theorem GLe.refl (g : G) : GLe g g := ⟨Sub.refl _, Nat.le_refl _, fun _ _ => rfl⟩
theorem GLe.trans {a b c : G} (x : GLe a b) (y : GLe b c) : GLe a c :=
  ⟨x.F.trans y.F, Nat.le_trans x.ng y.ng, fun n h => (y.adr n (Nat.lt_of_lt_of_le h x.ng)).trans (x.adr n h)⟩

theorem rd_mono {F H : Hp} (s : Sub F H) {a : Addr} {u : HO} (r : Rd F a u) : Rd H a u := by
  rcases r with r | ⟨o, r⟩
  · exact .inl (s _ _ r)
  · exact .inr ⟨o, s _ _ r⟩
theorem sqT_mono {K : PySem.W.Frag} {F H : Hp} (s : Sub F H) {a : Addr} {xs : List V} (r : SqT K F a xs) : SqT K H a xs := by
  rcases r with r | r
  · exact .inl (rd_mono s r)
  · exact .inr r
theorem sqL_mono {K : PySem.W.Frag} {F H : Hp} (s : Sub F H) {a : Addr} {xs : List V} (r : SqL K F a xs) : SqL K H a xs := by
  rcases r with r | r
  · exact .inl (rd_mono s r)
  · exact .inr r

section
variable {K : PySem.W.Frag} {g g' : G}
mutual
theorem Rep.mono (l : GLe g g') : ∀ {v : V} {d : D}, Rep K g v d → Rep K g' v d
  | _, _, .non => .non
  | _, _, .bl b => .bl b
  | _, _, .int i => .int i
  | _, _, .str x => .str x
  | _, _, .tup h r => .tup (sqT_mono l.F h) (RepL.mono l r)
  | _, _, .lst h r => .lst (l.F _ _ h) (RepL.mono l r)
  | _, _, .dic h r => .dic (l.F _ _ h) (RepK.mono l r)
  | _, _, .scr h r => .scr (sqL_mono l.F h) (RepL.mono l r)
  | _, _, .ref n h => by rw [← l.adr n h]; exact .ref n (Nat.lt_of_lt_of_le h l.ng)
theorem RepL.mono (l : GLe g g') : ∀ {v : List V} {d : List D}, RepL K g v d → RepL K g' v d
  | _, _, .nil => .nil
  | _, _, .cons a b => .cons (Rep.mono l a) (RepL.mono l b)
theorem RepK.mono (l : GLe g g') : ∀ {v : List (Key × V)} {d : List (Key × D)}, RepK K g v d → RepK K g' v d
  | _, _, .nil => .nil
  | _, _, .cons a b => .cons (Rep.mono l a) (RepK.mono l b)
end
theorem RepF.mono (l : GLe g g') : ∀ {v : List (Str × V)} {d : List (Str × D)}, RepF K g v d → RepF K g' v d
  | _, _, .nil => .nil
  | _, _, .cons a b => .cons (Rep.mono l a) (RepF.mono l b)

theorem RepL.length : ∀ {v : List V} {d : List D}, RepL K g v d → v.length = d.length
  | _, _, .nil => rfl
  | _, _, .cons _ b => by rw [List.length_cons, List.length_cons, RepL.length b]
theorem RepL.append : ∀ {v w : List V} {d e : List D}, RepL K g v d → RepL K g w e → RepL K g (v ++ w) (d ++ e)
  | _, _, _, _, .nil, h => h
  | _, _, _, _, .cons a b, h => .cons a (RepL.append b h)
theorem RepL.one {v : V} {d : D} (h : Rep K g v d) : RepL K g [v] [d] := .cons h .nil
theorem RepL.take : ∀ {v : List V} {d : List D} (n : Nat), RepL K g v d → RepL K g (v.take n) (d.take n)
  | _, _, 0, _ => .nil
  | _, _, _ + 1, .nil => .nil
  | _, _, n + 1, .cons a b => .cons a (RepL.take n b)
theorem RepL.drop : ∀ {v : List V} {d : List D} (n : Nat), RepL K g v d → RepL K g (v.drop n) (d.drop n)
  | _, _, 0, h => h
  | _, _, _ + 1, .nil => .nil
  | _, _, n + 1, .cons _ b => RepL.drop n b
theorem RepL.get : ∀ {v : List V} {d : List D} {i : Nat} {x : D}, RepL K g v d → d[i]? = some x → ∃ u, v[i]? = some u ∧ Rep K g u x
  | _, _, _, _, .nil, e => by simp at e
  | _, _, 0, _, .cons a b, e => by simp at e; subst e; exact ⟨_, rfl, a⟩
  | _, _, i + 1, x, .cons a b, e => by
    obtain ⟨u, h1, h2⟩ := RepL.get (i := i) (x := x) b (by simpa using e)
    exact ⟨u, by simpa using h1, h2⟩
theorem RepL.get' : ∀ {v : List V} {d : List D} {i : Nat} {u : V}, RepL K g v d → v[i]? = some u → ∃ x, d[i]? = some x ∧ Rep K g u x
  | _, _, _, _, .nil, e => by simp at e
  | _, _, 0, _, .cons a b, e => by simp at e; subst e; exact ⟨_, rfl, a⟩
  | _, _, i + 1, x, .cons a b, e => by
    obtain ⟨u, h1, h2⟩ := RepL.get' (i := i) (u := x) b (by simpa using e)
    exact ⟨u, by simpa using h1, h2⟩
theorem RepL.set {x : D} {u : V} (h : Rep K g u x) : ∀ {v : List V} {d : List D} (i : Nat), RepL K g v d → RepL K g (v.set i u) (d.set i x)
  | _, _, _, .nil => .nil
  | _, _, 0, .cons _ b => .cons h b
  | _, _, i + 1, .cons a b => .cons a (RepL.set h i b)
theorem RepL.reverse {v : List V} {d : List D} (h : RepL K g v d) : RepL K g v.reverse d.reverse := by
  induction v generalizing d with
  | nil => cases h; exact .nil
  | cons a v ih =>
    cases h with
    | cons x y =>
      rw [List.reverse_cons, List.reverse_cons]
      exact (ih y).append (.one x)
theorem RepL.eraseIdx : ∀ {v : List V} {d : List D} (i : Nat), RepL K g v d → RepL K g (v.eraseIdx i) (d.eraseIdx i)
  | _, _, _, .nil => .nil
  | _, _, 0, .cons _ b => b
  | _, _, i + 1, .cons a b => .cons a (RepL.eraseIdx i b)
end

/-- an object of the store at an address -/
def ObjRep (K : PySem.W.Frag) (g : G) (H : Hp) (a : Addr) : MObj → Prop
  | .lst xs => ∃ vs, H a = some (.lst vs) ∧ RepL K g vs xs
  | .dic kvs => ∃ vs, H a = some (.dK vs) ∧ RepK K g vs kvs
  | .ins c fs => ∃ dx vs, H a = some (.ins (He.ga K c) dx vs) ∧ RepF K g vs fs
theorem ObjRep.some {K : PySem.W.Frag} {g : G} {H : Hp} {a : Addr} {o : MObj} (h : ObjRep K g H a o) : ∃ u, H a = Option.some u := by
  cases o with
  | lst xs => obtain ⟨vs, e, _⟩ := h; exact ⟨_, e⟩
  | dic xs => obtain ⟨vs, e, _⟩ := h; exact ⟨_, e⟩
  | ins c fs => obtain ⟨dx, vs, e, _⟩ := h; exact ⟨_, e⟩
theorem ObjRep.mono {K : PySem.W.Frag} {g g' : G} {H H' : Hp} {a : Addr} {o : MObj} (l : GLe g g') (e : H' a = H a) (h : ObjRep K g H a o) : ObjRep K g' H' a o := by
  cases o with
  | lst xs => obtain ⟨vs, q, r⟩ := h; exact ⟨vs, e.trans q, r.mono l⟩
  | dic xs => obtain ⟨vs, q, r⟩ := h; exact ⟨vs, e.trans q, r.mono l⟩
  | ins c fs => obtain ⟨dx, vs, q, r⟩ := h; exact ⟨dx, vs, e.trans q, r.mono l⟩

def SlotRep (K : PySem.W.Frag) (g : G) (σ : St) (i : Nat) : Slot → Prop
  | .none => True
  | .val d => ∃ v, σ[i]? = some (some v) ∧ Rep K g v d
  | .own _ => σ[i]? = some (some (.ref (g.adr (.sl i))))

def Live (g : G) (s : S) (a : Addr) : Prop := ∃ l o, cellOf s l = some o ∧ g.adr l = a
/-- the state s is what the slots and the heap are -/
structure Ok (K : PySem.W.Frag) (g : G) (s : S) (σ : St) (H : Hp) : Prop where
  sub : Sub g.F H
  cell : ∀ l o, cellOf s l = some o → g.F (g.adr l) = none ∧ ObjRep K g H (g.adr l) o
  inj : ∀ l l' o o', cellOf s l = some o → cellOf s l' = some o' → g.adr l = g.adr l' → l = l'
  env : ∀ i x, s.env[i]? = some x → SlotRep K g σ i x
  len : s.env.length = σ.length
  ng : g.ng = s.gl.length
  prot : ∀ a, g.P a → (∃ u, H a = some u) ∧ g.F a = none ∧ ¬ Live g s a

/-- from (g, H) to (g', H') -/
structure Step (g : G) (H : Hp) (g' : G) (H' : Hp) : Prop where
  le : GLe g g'
  P : g'.P = g.P
  keep : ∀ a, g.P a → H' a = H a
theorem Step.refl (g : G) (H : Hp) : Step g H g H := ⟨GLe.refl _, rfl, fun _ _ => rfl⟩
theorem Step.trans {g g' g'' : G} {H H' H'' : Hp} (a : Step g H g' H') (b : Step g' H' g'' H'') : Step g H g'' H'' :=
  ⟨a.le.trans b.le, b.P.trans a.P, fun x p => (b.keep x (by rw [a.P]; exact p)).trans (a.keep x p)⟩

def RepRV (K : PySem.W.Frag) (g : G) (s : S) (H : Hp) (v : V) : RV → Prop
  | .d x => Rep K g v x
  | .at i => v = .ref (g.adr (.sl i))
  | .new o => ∃ a, v = .ref a ∧ g.F a = none ∧ ¬ g.P a ∧ ¬ Live g s a ∧ ObjRep K g H a o
/-- slots' objects stay at their places -/
def SlKeep (g g' : G) : Prop := ∀ i, g'.adr (.sl i) = g.adr (.sl i)
theorem SlKeep.refl (g : G) : SlKeep g g := fun _ => rfl
theorem SlKeep.trans {a b c : G} (x : SlKeep a b) (y : SlKeep b c) : SlKeep a c := fun i => (y i).trans (x i)

/-! ### what follows a part -/
abbrev M := S → Res RV
/-- an exception: the class by name, its one field (as a pair of its name and its value), or none -/
def ExcRep (K : PySem.W.Frag) (g : G) (H : Hp) (cls : Value) (d : Option Addr) (c : Str) (p : D) : Prop :=
  cls = .ref (He.ga K c) ∧ ((d = none ∧ p = .non) ∨ ∃ dx f v q, d = some dx ∧ H dx = some (.xd [(f, v)]) ∧ p = .tup [.str f, q] ∧ Rep K g v q)
theorem ExcRep.mono {K : PySem.W.Frag} {g g' : G} {H : Hp} {cls : Value} {d : Option Addr} {c : Str} {p : D} (l : GLe g g') (h : ExcRep K g H cls d c p) : ExcRep K g' H cls d c p := by
  obtain ⟨h1, h2 | ⟨dx, f, v, q, e1, e2, e3, r⟩⟩ := h
  · exact ⟨h1, .inl h2⟩
  · exact ⟨h1, .inr ⟨dx, f, v, q, e1, e2, e3, r.mono l⟩⟩
def PostE (K : PySem.W.Frag) (W : WX) (σ : St) (g : G) (s : S) (H : Hp) {α : Type} (k : α → G → S → Hp → Prop) : Res α → Prop
  | .ok a s' => ∀ g' H', Step g H g' H' → SlKeep g g' → Ok K g' s' σ H' → k a g' s' H'
  | .exc c p s' => ∀ cls d g' H', Step g H g' H' → SlKeep g g' → Ok K g' s' σ H' → ExcRep K g' H' cls d c p → W cls d σ H'
  | .stuck => False
abbrev kE (K : PySem.W.Frag) (Q : VK) : RV → G → S → Hp → Prop := fun r g s H => ∀ v, RepRV K g s H v r → Q v H
abbrev kL (K : PySem.W.Frag) (Q : List V → Hp → Prop) : List D → G → S → Hp → Prop := fun r g _ H => ∀ v, RepL K g v r → Q v H
abbrev kB (Q : Bool → Hp → Prop) : Bool → G → S → Hp → Prop := fun r _ _ H => Q r H
/-- mirrors as readings: an expression, an argument list, a test -/
def tM (K : PySem.W.Frag) (W : WX) (m : M) : TE := fun σ H Q => ∃ g s, Ok K g s σ H ∧ PostE K W σ g s H (kE K Q) (m s)
def tMA (K : PySem.W.Frag) (W : WX) (m : S → Res (List D)) : TA := fun σ H Q => ∃ g s, Ok K g s σ H ∧ PostE K W σ g s H (kL K Q) (m s)
def tMT (K : PySem.W.Frag) (W : WX) (m : S → Res Bool) : TT := fun σ H Q => ∃ g s, Ok K g s σ H ∧ PostE K W σ g s H (kB Q) (m s)
def ME (X : Cx) (W : WX) (e : Expr) (m : M) : Prop := PE X e (tM X.K W m)
def MA (X : Cx) (W : WX) (es : List Expr) (m : S → Res (List D)) : Prop := PA X es (tMA X.K W m)
def MT (X : Cx) (W : WX) (e : Expr) (m : S → Res Bool) : Prop := PT X e (tMT X.K W m)

def PostS (K : PySem.W.Frag) (W : WX) (g : G) (s : S) (H : Hp) (D : Ends) : Res Out → Prop
  | .ok .nx s' => ∀ σ' g' H', Step g H g' H' → Ok K g' s' σ' H' → D.nx σ' H'
  | .ok .bk s' => ∀ σ' g' H', Step g H g' H' → Ok K g' s' σ' H' → D.bk σ' H'
  | .ok .ct s' => ∀ σ' g' H', Step g H g' H' → Ok K g' s' σ' H' → D.ct σ' H'
  | .ok (.rt d) s' => ∀ v σ' g' H', Step g H g' H' → Ok K g' s' σ' H' → Rep K g' v d → D.rt v H'
  | .exc c p s' => ∀ σ' cls d g' H', Step g H g' H' → Ok K g' s' σ' H' → ExcRep K g' H' cls d c p → W cls d σ' H'
  | .stuck => False
def tMS (K : PySem.W.Frag) (W : WX) (m : S → Res Out) : TS := fun D σ H => ∃ g s, Ok K g s σ H ∧ PostS K W g s H D (m s)
def MS (X : Cx) (W : WX) (st : Stmt) (m : S → Res Out) : Prop := PS X st (tMS X.K W m)
def MSs (X : Cx) (W : WX) (st : List Stmt) (m : S → Res Out) : Prop := PSs X st (tMS X.K W m)

theorem pe_imp {X : Cx} {e : Expr} {t t' : TE} (h : PE X e t) (i : ∀ σ H Q, t' σ H Q → t σ H Q) : PE X e t' :=
  ⟨fun pins s σ H Q I q => h.run pins s σ H Q I (i σ H Q q)⟩
theorem pt_imp {X : Cx} {e : Expr} {t t' : TT} (h : PT X e t) (i : ∀ σ H Q, t' σ H Q → t σ H Q) : PT X e t' :=
  ⟨fun pins s σ H Q I q => h.run pins s σ H Q I (i σ H Q q)⟩
theorem pa_imp {X : Cx} {e : List Expr} {t t' : TA} (h : PA X e t) (i : ∀ σ H Q, t' σ H Q → t σ H Q) : PA X e t' :=
  ⟨fun pos pins s σ H Q I q => h.run pos pins s σ H Q I (i σ H Q q)⟩
theorem ps_imp {X : Cx} {e : Stmt} {t t' : TS} (h : PS X e t) (i : ∀ D σ H, t' D σ H → t D σ H) : PS X e t' :=
  ⟨fun pins s σ H D I q => h.run pins s σ H D I (i D σ H q)⟩
theorem pss_imp {X : Cx} {e : List Stmt} {t t' : TS} (h : PSs X e t) (i : ∀ D σ H, t' D σ H → t D σ H) : PSs X e t' :=
  ⟨fun pins s σ H D I q => h.run pins s σ H D I (i D σ H q)⟩

def Res.bind {α β : Type} (r : Res α) (f : α → S → Res β) : Res β := match r with
  | .ok a s => f a s
  | .exc c p s => .exc c p s
  | .stuck => .stuck
@[simp] theorem Res.bind_ok {α β : Type} (a : α) (s : S) (f : α → S → Res β) : (Res.ok a s).bind f = f a s := rfl
@[simp] theorem Res.bind_exc {α β : Type} (c : Str) (p : D) (s : S) (f : α → S → Res β) : (Res.exc c p s).bind f = .exc c p s := rfl
@[simp] theorem Res.bind_stuck {α β : Type} (f : α → S → Res β) : (Res.stuck : Res α).bind f = .stuck := rfl

section
variable {K : PySem.W.Frag} {W : WX} {σ : St} {g : G} {s : S} {H : Hp} {α β : Type} {k : α → G → S → Hp → Prop} {D : Ends}
theorem PostE.mono {k' : α → G → S → Hp → Prop} {r : Res α} (h : PostE K W σ g s H k r)
    (i : ∀ a g' s' H', Step g H g' H' → SlKeep g g' → Ok K g' s' σ H' → k a g' s' H' → k' a g' s' H') : PostE K W σ g s H k' r := by
  cases r with
  | ok a s' => exact fun g' H' t sk o => i _ _ _ _ t sk o (h g' H' t sk o)
  | exc c p s' => exact h
  | stuck => exact h
theorem PostE.bind {r : Res β} {f : β → S → Res α} (h : PostE K W σ g s H k (r.bind f)) :
    PostE K W σ g s H (fun b g' s' H' => PostE K W σ g' s' H' k (f b s')) r := by
  cases r with
  | ok b s' =>
    intro g' H' t sk o
    have h' : PostE K W σ g s H k (f b s') := h
    show PostE K W σ g' s' H' k (f b s')
    cases e : f b s' with
    | ok a s'' => rw [e] at h'; exact fun g'' H'' t' sk' o' => h' g'' H'' (t.trans t') (sk.trans sk') o'
    | exc c p s'' => rw [e] at h'; exact fun cls d g'' H'' t' sk' o' x => h' cls d g'' H'' (t.trans t') (sk.trans sk') o' x
    | stuck => rw [e] at h'; exact h'
  | exc c p s' => exact h
  | stuck => exact h
/-- a part that only turns the ghost -/
theorem PostE.ghost {r : Res α} {g' : G} {s' : S} (h : PostE K W σ g s H k r) (t : Step g H g' H) (sk : SlKeep g g') : PostE K W σ g' s' H k r := by
  cases r with
  | ok a s'' => exact fun g'' H'' t' sk' o' => h g'' H'' (t.trans t') (sk.trans sk') o'
  | exc c p s'' => exact fun cls d g'' H'' t' sk' o' x => h cls d g'' H'' (t.trans t') (sk.trans sk') o' x
  | stuck => exact h
theorem PostE.after {r : Res α} {g' : G} {s' : S} {H' : Hp} (h : PostE K W σ g s H k r) (t : Step g H g' H') (sk : SlKeep g g') : PostE K W σ g' s' H' k r := by
  cases r with
  | ok a s'' => exact fun g'' H'' t' sk' o' => h g'' H'' (t.trans t') (sk.trans sk') o'
  | exc c p s'' => exact fun cls d g'' H'' t' sk' o' x => h cls d g'' H'' (t.trans t') (sk.trans sk') o' x
  | stuck => exact h
theorem PostE.done {a : α} (h : PostE K W σ g s H k (.ok a s)) (o : Ok K g s σ H) : k a g s H := h g H (Step.refl _ _) (SlKeep.refl _) o
theorem PostS.bind {r : Res β} {f : β → S → Res Out} (h : PostS K W g s H D (r.bind f)) :
    PostE K W σ g s H (fun b g' s' H' => PostS K W g' s' H' D (f b s')) r := by
  cases r with
  | ok b s' =>
    intro g' H' t sk o
    have h' : PostS K W g s H D (f b s') := h
    show PostS K W g' s' H' D (f b s')
    cases e : f b s' with
    | ok a s'' =>
      rw [e] at h'
      cases a with
      | nx => exact fun σ'' g'' H'' t' o' => h' σ'' g'' H'' (t.trans t') o'
      | bk => exact fun σ'' g'' H'' t' o' => h' σ'' g'' H'' (t.trans t') o'
      | ct => exact fun σ'' g'' H'' t' o' => h' σ'' g'' H'' (t.trans t') o'
      | rt d => exact fun v σ'' g'' H'' t' o' x => h' v σ'' g'' H'' (t.trans t') o' x
    | exc c p s'' => rw [e] at h'; exact fun σ'' cls d g'' H'' t' o' x => h' σ'' cls d g'' H'' (t.trans t') o' x
    | stuck => rw [e] at h'; exact h'
  | exc c p s' => exact fun cls d g' H' t sk o x => h σ cls d g' H' t o x
  | stuck => exact h
theorem PostS.after {r : Res Out} {g' : G} {s' : S} {H' : Hp} (h : PostS K W g s H D r) (t : Step g H g' H') : PostS K W g' s' H' D r := by
  cases r with
  | ok a s'' =>
    cases a with
    | nx => exact fun σ'' g'' H'' t' o' => h σ'' g'' H'' (t.trans t') o'
    | bk => exact fun σ'' g'' H'' t' o' => h σ'' g'' H'' (t.trans t') o'
    | ct => exact fun σ'' g'' H'' t' o' => h σ'' g'' H'' (t.trans t') o'
    | rt d => exact fun v σ'' g'' H'' t' o' x => h v σ'' g'' H'' (t.trans t') o' x
  | exc c p s'' => exact fun σ'' cls d g'' H'' t' o' x => h σ'' cls d g'' H'' (t.trans t') o' x
  | stuck => exact h
end

/-! ### the ghost's own steps -/
section
variable {K : PySem.W.Frag} {σ : St} {g : G} {s : S} {H : Hp}
theorem Ok.live {a : Addr} (ok : Ok K g s σ H) (l : Live g s a) : ∃ u, H a = some u := by
  obtain ⟨l, o, e, rfl⟩ := l
  exact (ok.cell l o e).2.some
theorem Ok.fnone {a : Addr} (ok : Ok K g s σ H) (n : H a = none) : g.F a = none := by
  cases e : g.F a with
  | none => rfl
  | some u => rw [ok.sub _ _ e] at n; cases n
theorem Ok.pnone {a : Addr} (ok : Ok K g s σ H) (n : H a = none) : ¬ g.P a := fun p => by
  obtain ⟨⟨u, e⟩, _⟩ := ok.prot a p
  rw [n] at e; cases e
theorem Ok.lnone {a : Addr} (ok : Ok K g s σ H) (n : H a = none) : ¬ Live g s a := fun p => by
  obtain ⟨u, e⟩ := ok.live p
  rw [n] at e; cases e
/-- a new tracked object, not in the store -/
theorem Ok.grow {a : Addr} {o : HO} (ok : Ok K g s σ H) (n : H a = none) : Ok K g s σ (upd H a o) := by
  have ne : ∀ b u, H b = some u → b ≠ a := fun b u e z => by rw [z, n] at e; cases e
  refine ⟨fun b u e => by rw [upd_ne (ne b u (ok.sub b u e))]; exact ok.sub b u e, fun l u e => ?_, ok.inj, ok.env, ok.len, ok.ng, fun b p => ?_⟩
  · obtain ⟨f, r⟩ := ok.cell l u e
    obtain ⟨w, hw⟩ := r.some
    exact ⟨f, r.mono (GLe.refl _) (upd_ne (ne _ _ hw))⟩
  · obtain ⟨⟨u, e⟩, f, l⟩ := ok.prot b p
    exact ⟨⟨u, by rw [upd_ne (ne _ _ e)]; exact e⟩, f, l⟩
theorem Step.grow {a : Addr} {o : HO} (ok : Ok K g s σ H) (n : H a = none) : Step g H g (upd H a o) := by
  refine ⟨GLe.refl _, rfl, fun b p => upd_ne fun z => ?_⟩
  obtain ⟨⟨u, e⟩, _⟩ := ok.prot b p
  rw [z, n] at e; cases e
/-- a tracked object that is not in the store comes to stand for good -/
def G.frz (g : G) (a : Addr) (o : HO) : G := { g with F := upd g.F a o }
theorem frz_le {a : Addr} {o : HO} (n : g.F a = none) : GLe g (g.frz a o) := by
  refine ⟨fun b u e => ?_, Nat.le_refl _, fun _ _ => rfl⟩
  show upd g.F a o b = _
  rw [upd_ne (fun z => by rw [z, n] at e; cases e)]
  exact e
theorem SlotRep.mono {g' : G} {i : Nat} {x : Slot} (l : GLe g g') (k : SlKeep g g') (h : SlotRep K g σ i x) : SlotRep K g' σ i x := by
  cases x with
  | none => trivial
  | val d =>
    obtain ⟨v, e, r⟩ := h
    exact ⟨v, e, r.mono l⟩
  | own o =>
    show σ[i]? = _
    rw [k i]; exact h
theorem Ok.frz {a : Addr} {o : HO} (ok : Ok K g s σ H) (h : H a = some o) (n : g.F a = none) (np : ¬ g.P a) (nl : ¬ Live g s a) : Ok K (g.frz a o) s σ H := by
  have f0 : ∀ b, b ≠ a → (g.frz a o).F b = g.F b := fun b z => upd_ne z
  refine ⟨fun b u e => ?_, fun l u e => ?_, ok.inj, fun i x e => (ok.env i x e).mono (frz_le n) (SlKeep.refl _), ok.len, ok.ng, fun b p => ?_⟩
  · by_cases z : b = a
    · subst z
      have e' : upd g.F b o b = some u := e
      rw [upd_same] at e'
      rw [h]; exact e'
    · rw [f0 b z] at e
      exact ok.sub b u e
  · obtain ⟨f, r⟩ := ok.cell l u e
    exact ⟨(f0 _ fun z => nl ⟨l, u, e, z⟩).trans f, r.mono (frz_le n) rfl⟩
  · obtain ⟨e, f, l⟩ := ok.prot b p
    exact ⟨e, (f0 b fun z => np (z ▸ p)).trans f, l⟩
theorem Step.frz {a : Addr} {o : HO} (n : g.F a = none) : Step g H (g.frz a o) H := ⟨frz_le n, rfl, fun _ _ => rfl⟩
end
end MI
/-! # Expressions -/
namespace MI
open PySem L2

section
variable {K : PySem.W.Frag} {W : WX} {σ : St} {g : G} {s : S} {H : Hp}
/-- the end of an operation that makes nothing new -/
theorem kE_d {Q : VK} {x : D} {v : V} (h : PostE K W σ g s H (kE K Q) (.ok (.d x) s)) (o : Ok K g s σ H) (r : Rep K g v x) : Q v H := (PostE.done h o) v r
/-- .. that makes a new tracked object -/
theorem kE_new {Q : VK} {o : MObj} {ho : HO} {p : Addr} (h : PostE K W σ g s H (kE K Q) (.ok (.new o) s)) (k : Ok K g s σ H) (n : H p = none)
    (r : ObjRep K g (upd H p ho) p o) : Q (.ref p) (upd H p ho) :=
  h g _ (Step.grow k n) (SlKeep.refl _) (k.grow n) _ ⟨p, rfl, k.fnone n, k.pnone n, k.lnone n, r⟩
/-- a new tuple stands for good at once -/
theorem kE_tup {Q : VK} {ds : List D} {vs : List V} {p : Addr} (h : PostE K W σ g s H (kE K Q) (.ok (.d (.tup ds)) s)) (k : Ok K g s σ H) (n : H p = none)
    (r : RepL K g vs ds) : Q (.ref p) (upd H p (.tup vs)) := by
  have k1 := k.grow (o := .tup vs) n
  have k2 := k1.frz (o := .tup vs) upd_same (k.fnone n) (k.pnone n) (k.lnone n)
  refine h (g.frz p (.tup vs)) _ ((Step.grow k n).trans (Step.frz (k.fnone n))) (SlKeep.refl _) k2 _ (.tup (.inl (.inl ?_)) (r.mono (frz_le (k.fnone n))))
  exact upd_same
end

/-- a new object that is held while other parts run stands for good -/
def frzO : MObj → Option D
  | .lst xs => some (.lst xs)
  | .dic kvs => some (.dic kvs)
  | .ins _ _ => none
def settle : RV → Option RV
  | .new o => (frzO o).map .d
  | r => some r
/-- a value goes out of hand: a slot's object, a new one, stand for good from there on -/
def leak : RV → S → Option (D × S)
  | .d x, s => some (x, s)
  | .new o, s => (frzO o).map fun d => (d, s)
  | .at i, s => match s.env[i]? with
    | some (.own o) => (frzO o).map fun d => (d, { s with env := s.env.set i (.val d) })
    | _ => none

section
variable {K : PySem.W.Frag} {W : WX} {σ : St} {g : G} {s : S} {H : Hp}
theorem frzO_rep {g : G} {H : Hp} {a : Addr} {o : MObj} {d : D} (e : frzO o = some d) (r : ObjRep K g H a o) (n : g.F a = none) :
    ∃ u, H a = some u ∧ Rep K (g.frz a u) (.ref a) d := by
  cases o with
  | lst xs =>
    cases e
    obtain ⟨vs, h, r⟩ := r
    exact ⟨_, h, .lst upd_same (r.mono (frz_le n))⟩
  | dic xs =>
    cases e
    obtain ⟨vs, h, r⟩ := r
    exact ⟨_, h, .dic upd_same (r.mono (frz_le n))⟩
  | ins c fs => cases e
theorem settle_ok {v : V} {r r' : RV} (ok : Ok K g s σ H) (h : RepRV K g s H v r) (e : settle r = some r') :
    ∃ g', Step g H g' H ∧ SlKeep g g' ∧ Ok K g' s σ H ∧ RepRV K g' s H v r' := by
  cases r with
  | d x => cases e; exact ⟨g, Step.refl _ _, SlKeep.refl _, ok, h⟩
  | «at» i => cases e; exact ⟨g, Step.refl _ _, SlKeep.refl _, ok, h⟩
  | new o =>
    obtain ⟨a, rfl, n, np, nl, q⟩ := h
    cases e' : frzO o with
    | none => simp only [settle, e', Option.map_some, Option.map_none] at e; cases e
    | some d =>
      simp only [settle, e', Option.map_some, Option.map_none] at e; cases e
      obtain ⟨u, hu, r⟩ := frzO_rep e' q n
      exact ⟨g.frz a u, Step.frz n, SlKeep.refl _, ok.frz hu n np nl, r⟩
/-- a slot's object is given up: the slot holds data -/
theorem Ok.giveup {i : Nat} {o : MObj} {d : D} {u : HO} (ok : Ok K g s σ H) (e : s.env[i]? = some (.own o)) (hu : H (g.adr (.sl i)) = some u)
    (r : Rep K (g.frz (g.adr (.sl i)) u) (.ref (g.adr (.sl i))) d) : Ok K (g.frz (g.adr (.sl i)) u) { s with env := s.env.set i (.val d) } σ H := by
  have hi : i < s.env.length := (List.getElem?_eq_some_iff.mp e).1
  have ce : cellOf s (.sl i) = some o := by show (match s.env[i]? with | some (.own o) => some o | _ => none) = _; rw [e]
  obtain ⟨n, _⟩ := ok.cell _ _ ce
  have sub : ∀ l w, cellOf { s with env := s.env.set i (.val d) } l = some w → l ≠ .sl i ∧ cellOf s l = some w := by
    intro l w h
    cases l with
    | gl n => exact ⟨(fun z => nomatch z), h⟩
    | sl j =>
      by_cases z : j = i
      · subst z
        have h' : (match (s.env.set j (.val d))[j]? with | some (.own o) => some o | _ => none) = some w := h
        rw [List.getElem?_set_self hi] at h'
        cases h'
      · refine ⟨fun q => z (by cases q; rfl), ?_⟩
        have h' : (match (s.env.set i (.val d))[j]? with | some (.own o) => some o | _ => none) = some w := h
        rw [List.getElem?_set_ne (Ne.symm z)] at h'
        exact h'
  have ne : ∀ l w, cellOf s l = some w → l ≠ .sl i → g.adr l ≠ g.adr (.sl i) := fun l w h z q => z (ok.inj _ _ _ _ h ce q)
  refine ⟨fun b w q => ?_, fun l w q => ?_, fun l l' w w' q q' z => ok.inj l l' w w' (sub l w q).2 (sub l' w' q').2 z, fun j x q => ?_, by rw [List.length_set]; exact ok.len, ok.ng, fun b p => ?_⟩
  · have q' : upd g.F (g.adr (.sl i)) u b = some w := q
    by_cases z : b = g.adr (.sl i)
    · rw [z, upd_same] at q'
      rw [z, hu]; exact q'
    · rw [upd_ne z] at q'
      exact ok.sub b w q'
  · obtain ⟨h1, h2⟩ := sub l w q
    obtain ⟨f, r'⟩ := ok.cell l w h2
    refine ⟨?_, r'.mono (frz_le n) rfl⟩
    show upd g.F (g.adr (.sl i)) u (g.adr l) = none
    rw [upd_ne (ne l w h2 h1)]
    exact f
  · by_cases z : j = i
    · subst z
      rw [List.getElem?_set_self hi] at q
      cases q
      exact ⟨_, ok.env j _ e, r⟩
    · rw [List.getElem?_set_ne (Ne.symm z)] at q
      exact (ok.env j x q).mono (frz_le n) (SlKeep.refl _)
  · obtain ⟨e1, f, l⟩ := ok.prot b p
    refine ⟨e1, ?_, fun ⟨l', w, q, z⟩ => l ⟨l', w, (sub l' w q).2, z⟩⟩
    show upd g.F (g.adr (.sl i)) u b = none
    rw [upd_ne (fun z => l ⟨_, _, ce, z.symm⟩)]
    exact f
theorem leak_ok {v : V} {r : RV} {d : D} {s' : S} (ok : Ok K g s σ H) (h : RepRV K g s H v r) (e : leak r s = some (d, s')) :
    ∃ g', Step g H g' H ∧ SlKeep g g' ∧ Ok K g' s' σ H ∧ Rep K g' v d := by
  cases r with
  | d x => cases e; exact ⟨g, Step.refl _ _, SlKeep.refl _, ok, h⟩
  | new o =>
    obtain ⟨a, rfl, n, np, nl, q⟩ := h
    cases e' : frzO o with
    | none => simp only [leak, e', Option.map_some, Option.map_none] at e; cases e
    | some d' =>
      simp only [leak, e', Option.map_some, Option.map_none] at e; cases e
      obtain ⟨u, hu, r⟩ := frzO_rep e' q n
      exact ⟨g.frz a u, Step.frz n, SlKeep.refl _, ok.frz hu n np nl, r⟩
  | «at» i =>
    have hv : v = .ref (g.adr (.sl i)) := h
    subst hv
    unfold leak at e
    cases e1 : s.env[i]? with
    | none => simp only [e1] at e; cases e
    | some w =>
      cases w with
      | none => simp only [e1] at e; cases e
      | val x => simp only [e1] at e; cases e
      | own o =>
        simp only [e1] at e
        cases e' : frzO o with
        | none => simp only [e'] at e; cases e
        | some d' =>
          simp only [e'] at e; cases e
          have ce : cellOf s (.sl i) = some o := by show (match s.env[i]? with | some (.own o) => some o | _ => none) = _; rw [e1]
          obtain ⟨n, q⟩ := ok.cell _ _ ce
          obtain ⟨u, hu, r⟩ := frzO_rep e' q n
          exact ⟨_, Step.frz n, SlKeep.refl _, ok.giveup e1 hu r, r⟩
end

/-! ### names, constants -/
def mVar (i : Nat) : M := fun s => match s.env[i]? with
  | some (.val x) => .ok (.d x) s
  | some (.own _) => .ok (.at i) s
  | _ => .stuck
def mC (x : D) : M := fun s => .ok (.d x) s
def mLeak (m : M) : S → Res D := fun s => (m s).bind fun r s1 => match leak r s1 with
  | some (d, s2) => .ok d s2
  | none => .stuck
def mSettle (m : M) : M := fun s => (m s).bind fun r s1 => match settle r with
  | some r' => .ok r' s1
  | none => .stuck

section
variable {X : Cx} {W : WX}
theorem me_var {i : Nat} {x : Str} {pos : Pos} (hN : X.N[i]? = some x := by rfl) (hv : Vis X.env.scope x := by first | exact Or.inl rfl | exact Or.inr (Or.inl rfl) | exact Or.inr (Or.inr rfl)) (hd : (x == ("__debug__" : Str)) = false := by decide) (hcd : (x == ("__classdict__" : Str)) = false := by decide) :
    ME X W (.Name x pos) (mVar i) := by
  refine pe_imp (pe_var (i := i) hN hv hd hcd) fun σ H Q ⟨g, s, ok, h⟩ => ?_
  unfold mVar at h
  cases e : s.env[i]? with
  | none => simp only [e] at h; exact h.elim
  | some w =>
    cases w with
    | none => simp only [e] at h; exact h.elim
    | val x =>
      simp only [e] at h
      obtain ⟨v, ev, r⟩ := ok.env i _ e
      exact ⟨v, ev, kE_d h ok r⟩
    | own o =>
      simp only [e] at h
      exact ⟨_, ok.env i _ e, PostE.done h ok _ rfl⟩
theorem me_int {i : Int} {j pos} : ME X W (.Constant (.int i) j pos) (mC (.int i)) := pe_imp pe_int fun σ H Q ⟨g, s, ok, h⟩ => kE_d h ok (.int i)
theorem me_bl {b : Bool} {j pos} : ME X W (.Constant (.bool b) j pos) (mC (.bl b)) := pe_imp pe_bl fun σ H Q ⟨g, s, ok, h⟩ => kE_d h ok (.bl b)
theorem me_non {j pos} : ME X W (.Constant .none j pos) (mC .non) := pe_imp pe_non fun σ H Q ⟨g, s, ok, h⟩ => kE_d h ok .non
theorem me_str {x : Str} {j pos} : ME X W (.Constant (.str x) j pos) (mC (.str x)) := pe_imp pe_str fun σ H Q ⟨g, s, ok, h⟩ => kE_d h ok (.str x)
theorem me_glob {x : Str} {v : V} {u : Value} {d : D} {pos : Pos} (hg : Gl X x) (hm : X.mg x = some u) (r : RelV v u) (hr : ∀ g, Rep X.K g v d) (hd : (x == ("__debug__" : Str)) = false := by decide) : ME X W (.Name x pos) (mC d) :=
  pe_imp (pe_glob hg hm r hd) fun σ H Q ⟨g, s, ok, h⟩ => kE_d h ok (hr g)

/-! ### two operands -/
def mBin (f : S → RV → RV → Res RV) (a b : M) : M := fun s => (mSettle a s).bind fun x s1 => (b s1).bind fun y s2 => f s2 x y
def OpS (X : Cx) (W : WX) (r : R2) (f : S → RV → RV → Res RV) : Prop :=
  ∀ (σ : St) (g : G) (s : S) (H : Hp) (Q : VK) (x y : V) (ra rb : RV), Ok X.K g s σ H → RepRV X.K g s H x ra → RepRV X.K g s H y rb → (∀ o, ra ≠ .new o) →
    PostE X.K W σ g s H (kE X.K Q) (f s ra rb) → r x y H Q
theorem RepRV.held {K : PySem.W.Frag} {g g' : G} {s s' : S} {H H' : Hp} {v : V} {r : RV} (n : ∀ o, r ≠ .new o) (t : Step g H g' H') (k : SlKeep g g') (h : RepRV K g s H v r) : RepRV K g' s' H' v r := by
  cases r with
  | d x => exact Rep.mono t.le h
  | «at» i => show v = _; rw [k i]; exact h
  | new o => exact absurd rfl (n o)
theorem settle_no {r r' : RV} (e : settle r = some r') : ∀ o, r' ≠ .new o := by
  cases r with
  | d x => cases e; exact fun o z => by cases z
  | «at» i => cases e; exact fun o z => by cases z
  | new o =>
    cases e' : frzO o with
    | none => simp only [settle, e', Option.map_none] at e; cases e
    | some d => simp only [settle, e', Option.map_some] at e; cases e; exact fun o z => by cases z
/-- the settled reading of a part -/
theorem tM_settle {K : PySem.W.Frag} {m : M} {σ : St} {H : Hp} {Q : VK} {g : G} {s : S} {k : RV → G → S → Hp → Prop} (ok : Ok K g s σ H)
    (h : PostE K W σ g s H k (mSettle m s)) (q : ∀ r g' s' H' v, Step g H g' H' → SlKeep g g' → Ok K g' s' σ H' → RepRV K g' s' H' v r → (∀ o, r ≠ .new o) → k r g' s' H' → Q v H') : tM K W m σ H Q := by
  refine ⟨g, s, ok, (PostE.bind h).mono fun r g1 s1 H1 t1 k1 o1 h1 v rv => ?_⟩
  cases e : settle r with
  | none => rw [e] at h1; exact h1.elim
  | some r' =>
    rw [e] at h1
    obtain ⟨g2, t2, k2, o2, rv2⟩ := settle_ok o1 rv e
    have h2 := h1 g2 H1 t2 k2 o2
    exact q r' g2 s1 H1 v (t1.trans t2) (k1.trans k2) o2 rv2 (settle_no e) h2
theorem tOp_of {r : R2} {f : S → RV → RV → Res RV} {ma mb : M} (hs : OpS X W r f) {σ : St} {H : Hp} {Q : VK} {g : G} {s : S} (ok : Ok X.K g s σ H)
    (h : PostE X.K W σ g s H (kE X.K Q) (mBin f ma mb s)) : tOp r (tM X.K W ma) (tM X.K W mb) σ H Q := by
  refine tM_settle ok (PostE.bind h) fun x g1 s1 H1 v t1 k1 o1 rv nn h1 => ?_
  refine ⟨g1, s1, o1, (PostE.bind h1).mono fun y g2 s2 H2 t2 k2 o2 h2 u ru => ?_⟩
  exact hs σ g2 s2 H2 Q v u x y o2 (rv.held nn t2 k2) ru nn h2
variable {a b : Expr} {ma mb : M} {pos : Pos}
theorem me_bin {op : Operator} {r : R2} {f : S → RV → RV → Res RV} (ho : OpR X (binaryOp op) r) (hs : OpS X W r f) (ha : ME X W a ma) (hb : ME X W b mb) : ME X W (.BinOp a op b pos) (mBin f ma mb) :=
  pe_imp (pe_op ho ha hb) fun _ _ _ ⟨_, _, ok, h⟩ => tOp_of hs ok h
theorem me_cmp {op : CmpOp} {r : R2} {f : S → RV → RV → Res RV} (ho : OpR X (compareOp op) r) (hs : OpS X W r f) (ha : ME X W a ma) (hb : ME X W b mb) (hm : behindInMarks op b = false) : ME X W (.Compare a [op] [b] pos) (mBin f ma mb) :=
  pe_imp (pe_cmpR ho ha hb hm) fun _ _ _ ⟨_, _, ok, h⟩ => tOp_of hs ok h
end
end MI
/-! # Operations on values -/
namespace MI
open PySem L2

def asLst (s : S) : RV → Option (List D)
  | .d (.lst xs) => some xs
  | .at i => match s.env[i]? with
    | some (.own (.lst xs)) => some xs
    | _ => none
  | .d (.ref n) => match s.gl[n]? with
    | some (.lst xs) => some xs
    | _ => none
  | .new (.lst xs) => some xs
  | _ => none
def asDic (s : S) : RV → Option (List (Key × D))
  | .d (.dic xs) => some xs
  | .at i => match s.env[i]? with
    | some (.own (.dic xs)) => some xs
    | _ => none
  | .d (.ref n) => match s.gl[n]? with
    | some (.dic xs) => some xs
    | _ => none
  | .new (.dic xs) => some xs
  | _ => none
def asTup : RV → Option (List D)
  | .d (.tup xs) => some xs
  | _ => none
def asInt : RV → Option Int
  | .d (.int i) => some i
  | _ => none
def asStr : RV → Option Str
  | .d (.str i) => some i
  | _ => none

section
variable {K : PySem.W.Frag} {W : WX} {σ : St} {g : G} {s : S} {H : Hp}
theorem asInt_ok {v : V} {r : RV} {i : Int} (h : RepRV K g s H v r) (e : asInt r = some i) : v = .int i := by
  cases r with
  | d x => cases x <;> first | (cases e; cases (show Rep K g v _ from h); rfl) | cases e
  | «at» i => cases e
  | new o => cases e
theorem asStr_ok {v : V} {r : RV} {i : Str} (h : RepRV K g s H v r) (e : asStr r = some i) : v = .str i := by
  cases r with
  | d x => cases x <;> first | (cases e; cases (show Rep K g v _ from h); rfl) | cases e
  | «at» i => cases e
  | new o => cases e
theorem asTup_ok {v : V} {r : RV} {xs : List D} (ok : Ok K g s σ H) (h : RepRV K g s H v r) (e : asTup r = some xs) : ∃ a vs, v = .ref a ∧ SqT K H a vs ∧ RepL K g vs xs := by
  cases r with
  | d x =>
    cases x with
    | tup ys =>
      cases e
      cases (show Rep K g v _ from h) with
      | tup h1 r => exact ⟨_, _, rfl, sqT_mono ok.sub h1, r⟩
    | _ => cases e
  | «at» i => cases e
  | new o => cases e
theorem cell_sl {i : Nat} {o : MObj} (e : s.env[i]? = some (.own o)) : cellOf s (.sl i) = some o := by
  show (match s.env[i]? with | some (.own o) => some o | _ => none) = _
  rw [e]
theorem asLst_ok {v : V} {r : RV} {xs : List D} (ok : Ok K g s σ H) (h : RepRV K g s H v r) (e : asLst s r = some xs) : ∃ a vs, v = .ref a ∧ H a = some (.lst vs) ∧ RepL K g vs xs := by
  cases r with
  | d x =>
    cases x with
    | lst ys =>
      cases e
      cases (show Rep K g v _ from h) with
      | lst h1 r => exact ⟨_, _, rfl, ok.sub _ _ h1, r⟩
    | ref n =>
      cases (show Rep K g v _ from h) with
      | ref _ hn =>
        simp only [asLst] at e
        split at e
        · rename_i ys hg
          cases e
          obtain ⟨_, vs, h1, r⟩ := ok.cell (.gl n) (.lst xs) hg
          exact ⟨_, _, rfl, h1, r⟩
        · cases e
    | _ => cases e
  | «at» i =>
    simp only [asLst] at e
    split at e
    · rename_i ys hg
      cases e
      obtain ⟨_, vs, h1, r⟩ := ok.cell (.sl i) (.lst xs) (cell_sl hg)
      exact ⟨_, _, h, h1, r⟩
    · cases e
  | new o =>
    cases o with
    | lst ys =>
      cases e
      obtain ⟨a, hv, _, _, _, vs, h1, r⟩ := h
      exact ⟨a, vs, hv, h1, r⟩
    | _ => cases e
theorem asDic_ok {v : V} {r : RV} {xs : List (Key × D)} (ok : Ok K g s σ H) (h : RepRV K g s H v r) (e : asDic s r = some xs) : ∃ a vs, v = .ref a ∧ H a = some (.dK vs) ∧ RepK K g vs xs := by
  cases r with
  | d x =>
    cases x with
    | dic ys =>
      cases e
      cases (show Rep K g v _ from h) with
      | dic h1 r => exact ⟨_, _, rfl, ok.sub _ _ h1, r⟩
    | ref n =>
      cases (show Rep K g v _ from h) with
      | ref _ hn =>
        simp only [asDic] at e
        split at e
        · rename_i ys hg
          cases e
          obtain ⟨_, vs, h1, r⟩ := ok.cell (.gl n) (.dic xs) hg
          exact ⟨_, _, rfl, h1, r⟩
        · cases e
    | _ => cases e
  | «at» i =>
    simp only [asDic] at e
    split at e
    · rename_i ys hg
      cases e
      obtain ⟨_, vs, h1, r⟩ := ok.cell (.sl i) (.dic xs) (cell_sl hg)
      exact ⟨_, _, h, h1, r⟩
    · cases e
  | new o =>
    cases o with
    | dic ys =>
      cases e
      obtain ⟨a, hv, _, _, _, vs, h1, r⟩ := h
      exact ⟨a, vs, hv, h1, r⟩
    | _ => cases e
end

/-! ### arithmetic -/
/-- of two operations the one that is not stuck -/
def orF (f f' : S → RV → RV → Res RV) : S → RV → RV → Res RV := fun s a b => match f s a b with
  | .stuck => f' s a b
  | r => r
theorem OpS.or {X : Cx} {W : WX} {r r' : R2} {f f' : S → RV → RV → Res RV} (h : OpS X W r f) (h' : OpS X W r' f') : OpS X W (fun x y H Q => r x y H Q ∨ r' x y H Q) (orF f f') := by
  intro σ g s H Q x y ra rb ok rx ry nn q
  unfold orF at q
  cases e : f s ra rb with
  | ok a s' => simp only [e] at q; exact .inl (h σ g s H Q x y ra rb ok rx ry nn (by rw [e]; exact q))
  | exc c p s' => simp only [e] at q; exact .inl (h σ g s H Q x y ra rb ok rx ry nn (by rw [e]; exact q))
  | stuck => simp only [e] at q; exact .inr (h' σ g s H Q x y ra rb ok rx ry nn q)
def fI (C : Int → Int → Bool) (f : Int → Int → D) : S → RV → RV → Res RV := fun s a b => match asInt a, asInt b with
  | some i, some j => if C i j = true then .ok (.d (f i j)) s else .stuck
  | _, _ => .stuck
theorem fI_ok {X : Cx} {W : WX} {C : Int → Int → Bool} {f : Int → Int → D} {C' : Int → Int → Prop} {f' : Int → Int → V} (hc : ∀ i j, C i j = true → C' i j) (hf : ∀ K g i j, Rep K g (f' i j) (f i j)) : OpS X W (rI C' f') (fI C f) := by
  intro σ g s H Q x y ra rb ok rx ry nn q
  unfold fI at q
  cases e1 : asInt ra with
  | none => simp only [e1] at q; exact q.elim
  | some i =>
    cases e2 : asInt rb with
    | none => simp only [e1, e2] at q; exact q.elim
    | some j =>
      simp only [e1, e2] at q
      by_cases h : C i j = true
      · rw [if_pos h] at q
        exact ⟨i, j, asInt_ok rx e1, asInt_ok ry e2, hc i j h, kE_d q ok (hf _ _ i j)⟩
      · rw [if_neg h] at q; exact q.elim
theorem rI0_of {g : Int → Int → V} {x y : V} {H : Hp} {Q : VK} (h : rI (fun _ _ => True) g x y H Q) : rI0 g x y H Q := by
  obtain ⟨i, j, e1, e2, _, q⟩ := h
  exact ⟨i, j, e1, e2, q⟩
theorem OpR.imp {X : Cx} {f : Value → Value → Sem Value} {r r' : R2} (h : OpR X f r) (i : ∀ x y H Q, r' x y H Q → r x y H Q) : OpR X f r' :=
  fun pins s σ H x y v u Q I rx ry q => h pins s σ H x y v u Q I rx ry (i x y H Q q)
def cT : Int → Int → Bool := fun _ _ => true
def cMul : Int → Int → Bool := fun i j => decide (i.natAbs < 2 ^ 64) || decide (j.natAbs < 2 ^ 64) || decide (i.natAbs.log2 + j.natAbs.log2 < 1000000)
def cMod : Int → Int → Bool := fun _ j => decide (0 < j)
def cFdiv : Int → Int → Bool := fun _ j => decide (0 < j) && (decide (j < 1073741824) || decide (j.natAbs.log2 < 9000))
def cPow : Int → Int → Bool := fun i j => decide (0 ≤ j) && (decide (j ≤ 1000000) && decide (i.natAbs < 2 ^ 64))
section
variable {X : Cx} {W : WX}
def opSub := fI cT fun i j => .int (i - j)
theorem os_sub : OpS X W (rI0 fun i j => .int (i - j)) opSub := fun σ g s H Q x y ra rb ok rx ry nn q => rI0_of (fI_ok (C' := fun _ _ => True) (fun _ _ _ => trivial) (fun _ _ i j => .int _) σ g s H Q x y ra rb ok rx ry nn q)
def rMul2 : R2 := fun x y H Q => rI CMul (fun i j => .int (i * j)) x y H Q ∨ rI CMulW (fun i j => .int (i * j)) x y H Q
theorem op_mul2 : OpR X (binaryOp .Mult) rMul2 := op_mul.or op_mulW
def opMulI := fI cMul fun i j => .int (i * j)
theorem os_mulI : OpS X W rMul2 opMulI := by
  intro σ g s H Q x y ra rb ok rx ry nn q
  obtain ⟨i, j, e1, e2, hc, q⟩ := fI_ok (X := X) (C' := fun i j => cMul i j = true) (f' := fun i j => V.int (i * j)) (fun _ _ h => h) (fun _ _ i j => .int _) σ g s H Q x y ra rb ok rx ry nn q
  unfold cMul at hc
  simp only [Bool.or_eq_true, decide_eq_true_eq] at hc
  rcases hc with (h | h) | h
  · exact .inl ⟨i, j, e1, e2, .inl ⟨by omega, by omega⟩, q⟩
  · exact .inl ⟨i, j, e1, e2, .inr ⟨by omega, by omega⟩, q⟩
  · exact .inr ⟨i, j, e1, e2, h, q⟩
def opMod := fI cMod fun i j => .int (i % j)
theorem os_mod : OpS X W (rI (fun _ j => 0 < j) fun i j => .int (i % j)) opMod := fI_ok (fun _ _ h => of_decide_eq_true h) (fun _ _ i j => .int _)
def rFdiv2 : R2 := fun x y H Q => rI CDiv (fun i j => .int (i / j)) x y H Q ∨ rI CDivW (fun i j => .int (i / j)) x y H Q
theorem op_fdiv2 : OpR X (binaryOp .FloorDiv) rFdiv2 := op_fdiv.or op_fdivW
def opFdiv := fI cFdiv fun i j => .int (i / j)
theorem os_fdiv : OpS X W rFdiv2 opFdiv := by
  intro σ g s H Q x y ra rb ok rx ry nn q
  obtain ⟨i, j, e1, e2, hc, q⟩ := fI_ok (X := X) (C' := fun i j => cFdiv i j = true) (f' := fun i j => V.int (i / j)) (fun _ _ h => h) (fun _ _ i j => .int _) σ g s H Q x y ra rb ok rx ry nn q
  unfold cFdiv at hc
  simp only [Bool.or_eq_true, Bool.and_eq_true, decide_eq_true_eq] at hc
  obtain ⟨h0, h | h⟩ := hc
  · exact .inl ⟨i, j, e1, e2, ⟨h0, h⟩, q⟩
  · exact .inr ⟨i, j, e1, e2, ⟨h0, h⟩, q⟩
def opPow := fI cPow fun i j => .int (i ^ j.toNat)
theorem cPow_ok (i j : Int) (h : cPow i j = true) : CPow i j := by
  unfold cPow at h
  simp only [Bool.and_eq_true, decide_eq_true_eq] at h
  exact ⟨h.1, h.2.1, h.2.2⟩
theorem os_pow : OpS X W (rI CPow fun i j => .int (i ^ j.toNat)) opPow := fI_ok cPow_ok (fun _ _ i j => .int _)
def opShl := fI cPow fun i j => .int (i * 2 ^ j.toNat)
theorem os_shl : OpS X W (rI CPow fun i j => .int (i * 2 ^ j.toNat)) opShl := fI_ok cPow_ok (fun _ _ i j => .int _)

/-! ### a + b -/
def opAddI := fI cT fun i j => .int (i + j)
theorem os_addI : OpS X W (rI0 fun i j => .int (i + j)) opAddI := fun σ g s H Q x y ra rb ok rx ry nn q => rI0_of (fI_ok (C' := fun _ _ => True) (fun _ _ _ => trivial) (fun _ _ i j => .int _) σ g s H Q x y ra rb ok rx ry nn q)
def opAddS : S → RV → RV → Res RV := fun s a b => match asStr a, asStr b with
  | some x, some y => if x.length + y.length ≤ sizeLine then .ok (.d (.str (x ++ y))) s else .stuck
  | _, _ => .stuck
theorem os_addS : OpS X W (fun x y H Q => ∃ i j, x = .str i ∧ y = .str j ∧ i.length + j.length ≤ sizeLine ∧ Q (.str (i ++ j)) H) opAddS := by
  intro σ g s H Q x y ra rb ok rx ry nn q
  unfold opAddS at q
  split at q
  · rename_i i j e1 e2
    split at q
    · rename_i h
      exact ⟨i, j, asStr_ok rx e1, asStr_ok ry e2, h, kE_d q ok (.str _)⟩
    · exact q.elim
  · exact q.elim
def opAddT : S → RV → RV → Res RV := fun s a b => match asTup a, asTup b with
  | some x, some y => if x.length + y.length ≤ sizeLine then .ok (.d (.tup (x ++ y))) s else .stuck
  | _, _ => .stuck
theorem RepL.nil_iff {K : PySem.W.Frag} {g : G} {vs : List V} {ds : List D} (r : RepL K g vs ds) : vs = [] ↔ ds = [] := by
  cases r <;> simp
theorem os_addT : OpS X W (rCatA X.K) opAddT := by
  intro σ g s H Q x y ra rb ok rx ry nn q
  unfold opAddT at q
  split at q
  · rename_i i j e1 e2
    split at q
    · rename_i h
      obtain ⟨a, vs, rfl, h1, r1⟩ := asTup_ok ok rx e1
      obtain ⟨b, ws, rfl, h2, r2⟩ := asTup_ok ok ry e2
      refine ⟨a, b, vs, ws, rfl, rfl, h1, h2, by rw [r1.length, r2.length]; exact h, fun z => ?_, fun z z' => ?_, fun z z' p hp => kE_tup q ok hp (r1.append r2)⟩
      · rw [(RepL.nil_iff r1).mp z, List.nil_append] at q
        cases rb with
        | d w =>
          cases w <;> first | cases e2
          exact kE_d q ok ry
        | «at» _ => cases e2
        | new _ => cases e2
      · rw [(RepL.nil_iff r2).mp z', List.append_nil] at q
        cases ra with
        | d w =>
          cases w <;> first | cases e1
          exact kE_d q ok rx
        | «at» _ => cases e1
        | new _ => cases e1
    · exact q.elim
  · exact q.elim
def opAddL : S → RV → RV → Res RV := fun s a b => match asLst s a, asLst s b with
  | some x, some y => if x.length + y.length ≤ sizeLine then .ok (.new (.lst (x ++ y))) s else .stuck
  | _, _ => .stuck
theorem os_addL : OpS X W rCat opAddL := by
  intro σ g s H Q x y ra rb ok rx ry nn q
  unfold opAddL at q
  split at q
  · rename_i i j e1 e2
    split at q
    · rename_i h
      obtain ⟨a, vs, rfl, h1, r1⟩ := asLst_ok ok rx e1
      obtain ⟨b, ws, rfl, h2, r2⟩ := asLst_ok ok ry e2
      exact ⟨a, b, vs, ws, rfl, rfl, h1, h2, by rw [r1.length, r2.length]; exact h, fun p hp => kE_new q ok hp ⟨_, upd_same, r1.append r2⟩⟩
    · exact q.elim
  · exact q.elim
def opAdd := orF opAddI (orF opAddS (orF opAddT opAddL))
theorem op_addA : OpR X (binaryOp .Add) (fun x y H Q => rI0 (fun i j => .int (i + j)) x y H Q ∨ (∃ i j, x = .str i ∧ y = .str j ∧ i.length + j.length ≤ sizeLine ∧ Q (.str (i ++ j)) H) ∨ rCatA X.K x y H Q ∨ rCat x y H Q) :=
  op_add.or (op_add_str.or (op_catA.or op_cat))
theorem os_add : OpS X W (fun x y H Q => rI0 (fun i j => .int (i + j)) x y H Q ∨ (∃ i j, x = .str i ∧ y = .str j ∧ i.length + j.length ≤ sizeLine ∧ Q (.str (i ++ j)) H) ∨ rCatA X.K x y H Q ∨ rCat x y H Q) opAdd :=
  os_addI.or (os_addS.or (os_addT.or os_addL))
variable {a b : Expr} {ma mb : M} {pos : Pos}
theorem me_add (ha : ME X W a ma) (hb : ME X W b mb) : ME X W (.BinOp a .Add b pos) (mBin opAdd ma mb) := me_bin op_addA os_add ha hb
theorem me_sub (ha : ME X W a ma) (hb : ME X W b mb) : ME X W (.BinOp a .Sub b pos) (mBin opSub ma mb) := me_bin op_sub os_sub ha hb
theorem me_mod (ha : ME X W a ma) (hb : ME X W b mb) : ME X W (.BinOp a .Mod b pos) (mBin opMod ma mb) := me_bin op_mod os_mod ha hb
theorem me_fdiv (ha : ME X W a ma) (hb : ME X W b mb) : ME X W (.BinOp a .FloorDiv b pos) (mBin opFdiv ma mb) := me_bin op_fdiv2 os_fdiv ha hb
theorem me_pow (ha : ME X W a ma) (hb : ME X W b mb) : ME X W (.BinOp a .Pow b pos) (mBin opPow ma mb) := me_bin op_pow os_pow ha hb
theorem me_shl (ha : ME X W a ma) (hb : ME X W b mb) : ME X W (.BinOp a .LShift b pos) (mBin opShl ma mb) := me_bin op_shl os_shl ha hb
end
end MI
/-! # Comparisons -/
namespace MI
open PySem L2

/-- what a value is as data, for the moment -/
def asD (s : S) : RV → Option D
  | .d (.ref n) => match s.gl[n]? with
    | some o => frzO o
    | none => none
  | .d x => some x
  | .at i => match s.env[i]? with
    | some (.own o) => frzO o
    | _ => none
  | .new o => frzO o
section
variable {K : PySem.W.Frag} {W : WX} {σ : St} {g : G} {s : S} {H : Hp}
theorem frz_le' {a : Addr} {u : HO} (sb : Sub g.F H) (h : H a = some u) : GLe g (g.frz a u) ∧ Sub (g.frz a u).F H := by
  refine ⟨⟨fun b w e => ?_, Nat.le_refl _, fun _ _ => rfl⟩, fun b w e => ?_⟩
  · show upd g.F a u b = _
    by_cases z : b = a
    · subst z; rw [upd_same, ← h]; exact sb _ _ e
    · rw [upd_ne z]; exact e
  · have e' : upd g.F a u b = some w := e
    by_cases z : b = a
    · subst z; rw [upd_same] at e'; rw [h]; exact e'
    · rw [upd_ne z] at e'; exact sb _ _ e'
theorem frzO_rep' {a : Addr} {o : MObj} {d : D} (sb : Sub g.F H) (e : frzO o = some d) (r : ObjRep K g H a o) :
    ∃ g', GLe g g' ∧ Sub g'.F H ∧ Rep K g' (.ref a) d := by
  cases o with
  | lst xs =>
    cases e
    obtain ⟨vs, h, r⟩ := r
    obtain ⟨l, sb'⟩ := frz_le' sb h
    exact ⟨_, l, sb', .lst upd_same (r.mono l)⟩
  | dic xs =>
    cases e
    obtain ⟨vs, h, r⟩ := r
    obtain ⟨l, sb'⟩ := frz_le' sb h
    exact ⟨_, l, sb', .dic upd_same (r.mono l)⟩
  | ins c fs => cases e
/-- .. over any ghost behind g whose F stands in H -/
theorem asD_ok {g0 : G} {v : V} {r : RV} {d : D} (ok : Ok K g0 s σ H) (l0 : GLe g0 g) (sb : Sub g.F H) (h : RepRV K g0 s H v r) (e : asD s r = some d) : ∃ g', GLe g g' ∧ Sub g'.F H ∧ Rep K g' v d := by
  cases r with
  | d x =>
    by_cases hx : ∃ n, x = .ref n
    · obtain ⟨n, rfl⟩ := hx
      simp only [asD] at e
      split at e
      · rename_i o hg
        obtain ⟨_, q⟩ := ok.cell (.gl n) o hg
        cases (show Rep K g0 v _ from h) with
        | ref _ hn => exact frzO_rep' sb e (q.mono l0 rfl)
      · cases e
    · have e' : asD s (.d x) = some x := by cases x <;> first | rfl | exact absurd ⟨_, rfl⟩ hx
      rw [e'] at e
      cases e
      exact ⟨g, GLe.refl _, sb, Rep.mono l0 h⟩
  | «at» i =>
    simp only [asD] at e
    split at e
    · rename_i o hg
      have hv : v = .ref (g0.adr (.sl i)) := h
      subst hv
      obtain ⟨_, q⟩ := ok.cell (.sl i) o (cell_sl hg)
      exact frzO_rep' sb e (q.mono l0 rfl)
    · cases e
  | new o =>
    obtain ⟨a, rfl, _, _, _, q⟩ := h
    exact frzO_rep' sb e (q.mono l0 rfl)
end

/-! ### == -/
def eqAll (f : D → D → Option Bool) : List D → List D → Option Bool
  | [], [] => some true
  | x :: xs, y :: ys => match f x y, eqAll f xs ys with
    | some a, some b => some (a && b)
    | _, _ => none
  | [], _ :: _ => some false
  | _ :: _, [] => some false
def eqS : D → D → Option Bool
  | .non, .non => some true
  | .non, .bl _ => some false
  | .non, .int _ => some false
  | .non, .str _ => some false
  | .bl _, .non => some false
  | .bl a, .bl b => some (a == b)
  | .bl a, .int j => some ((if a then 1 else 0) == j)
  | .bl _, .str _ => some false
  | .int _, .non => some false
  | .int i, .bl b => some (i == (if b then 1 else 0))
  | .int i, .int j => some (i == j)
  | .int _, .str _ => some false
  | .str _, .non => some false
  | .str _, .bl _ => some false
  | .str _, .int _ => some false
  | .str x, .str y => some (x == y)
  | _, _ => none
/-- Python's == of data nested below n; none: not told -/
def eqvO : Nat → D → D → Option Bool
  | 0, x, y => eqS x y
  | n + 1, .tup xs, .tup ys => eqAll (eqvO n) xs ys
  | n + 1, .lst xs, .lst ys => eqAll (eqvO n) xs ys
  | _ + 1, .tup _, .lst _ => some false
  | _ + 1, .lst _, .tup _ => some false
  | _ + 1, .tup _, .non => some false
  | _ + 1, .tup _, .bl _ => some false
  | _ + 1, .tup _, .int _ => some false
  | _ + 1, .tup _, .str _ => some false
  | _ + 1, .lst _, .non => some false
  | _ + 1, .lst _, .bl _ => some false
  | _ + 1, .lst _, .int _ => some false
  | _ + 1, .lst _, .str _ => some false
  | _ + 1, .non, .tup _ => some false
  | _ + 1, .bl _, .tup _ => some false
  | _ + 1, .int _, .tup _ => some false
  | _ + 1, .str _, .tup _ => some false
  | _ + 1, .non, .lst _ => some false
  | _ + 1, .bl _, .lst _ => some false
  | _ + 1, .int _, .lst _ => some false
  | _ + 1, .str _, .lst _ => some false
  | _ + 1, x, y => eqS x y

section
variable {X : Cx} {pins : List (Addr × Obj)} {σ : St} {g : G} {H : Hp} {s : Shared}
theorem tup_not_lst (I : Inv X pins σ H s) {a : Addr} {vs ws : List V} (h : SqT X.K H a vs) (h' : H a = some (.lst ws)) : False := by
  rcases h with h | ⟨o, its, n, hk, _⟩
  · rcases h with h | ⟨o, h⟩ <;> (rw [h'] at h; cases h)
  · obtain ⟨_, z⟩ := I.bs a o (I.mod.kin a o hk)
    rw [h'] at z; cases z
/-- both answers: RcAt (==) and EqAt (in a comparison of parts) -/
def EqT (X : Cx) (s : Shared) (A : Around) (v u : Value) (b : Bool) : Prop := SeqAt.RcAt A s v u b ∧ SeqAt.EqAt A s v u b ∧ SeqAt.RcNeAt A s v u (!b)
theorem eqS_at {A : Around} : ∀ {x y : D} {b : Bool} {vx vy : V} {v u : Value}, eqS x y = some b → Rep X.K g vx x → Rep X.K g vy y → RelV vx v → RelV vy u → EqT X s A v u b
  | .non, .non, _, _, _, _, _, e, .non, .non, r1, r2 => by
    cases e
    cases r1
    cases r2
    exact ⟨SeqAt.RcAt.none_none, SeqAt.EqAt.same _, SeqAt.RcNeAt.none_none⟩
  | .non, .bl q, _, _, _, _, _, e, .non, .bl _, r1, r2 => by
    cases e
    cases r1
    cases r2
    exact ⟨SeqAt.RcAt.none_bool _, SeqAt.EqAt.none_bool _, SeqAt.RcNeAt.none_bool _⟩
  | .non, .int q, _, _, _, _, _, e, .non, .int _, r1, r2 => by
    cases e
    cases r1
    obtain ⟨t2, rfl⟩ := r2
    exact ⟨SeqAt.RcAt.none_int _ _, SeqAt.EqAt.none_int _ _, SeqAt.RcNeAt.none_int _ _⟩
  | .non, .str q, _, _, _, _, _, e, .non, .str _, r1, r2 => by
    cases e
    cases r1
    obtain ⟨t2, rfl⟩ := r2
    exact ⟨SeqAt.RcAt.none_str _ _, SeqAt.EqAt.none_str _ _, SeqAt.RcNeAt.none_str _ _⟩
  | .bl p, .non, _, _, _, _, _, e, .bl _, .non, r1, r2 => by
    cases e
    cases r1
    cases r2
    exact ⟨SeqAt.RcAt.bool_none _, SeqAt.EqAt.bool_none _, SeqAt.RcNeAt.bool_none _⟩
  | .bl p, .bl q, _, _, _, _, _, e, .bl _, .bl _, r1, r2 => by
    cases e
    cases r1
    cases r2
    exact ⟨SeqAt.RcAt.bool_bool _ _, SeqAt.EqAt.bool_bool _ _, SeqAt.RcNeAt.bool_bool _ _⟩
  | .bl p, .int q, _, _, _, _, _, e, .bl _, .int _, r1, r2 => by
    cases e
    cases r1
    obtain ⟨t2, rfl⟩ := r2
    exact ⟨SeqAt.RcAt.bool_int _ _ _, SeqAt.EqAt.bool_int _ _ _, SeqAt.RcNeAt.bool_int _ _ _⟩
  | .bl p, .str q, _, _, _, _, _, e, .bl _, .str _, r1, r2 => by
    cases e
    cases r1
    obtain ⟨t2, rfl⟩ := r2
    exact ⟨SeqAt.RcAt.bool_str _ _ _, SeqAt.EqAt.bool_str _ _ _, SeqAt.RcNeAt.bool_str _ _ _⟩
  | .int p, .non, _, _, _, _, _, e, .int _, .non, r1, r2 => by
    cases e
    obtain ⟨t, rfl⟩ := r1
    cases r2
    exact ⟨SeqAt.RcAt.int_none _ _, SeqAt.EqAt.int_none _ _, SeqAt.RcNeAt.int_none _ _⟩
  | .int p, .bl q, _, _, _, _, _, e, .int _, .bl _, r1, r2 => by
    cases e
    obtain ⟨t, rfl⟩ := r1
    cases r2
    exact ⟨SeqAt.RcAt.int_bool _ _ _, SeqAt.EqAt.int_bool _ _ _, SeqAt.RcNeAt.int_bool _ _ _⟩
  | .int p, .int q, _, _, _, _, _, e, .int _, .int _, r1, r2 => by
    cases e
    obtain ⟨t, rfl⟩ := r1
    obtain ⟨t2, rfl⟩ := r2
    exact ⟨SeqAt.RcAt.int_int _ _ _ _, SeqAt.EqAt.int_int _ _ _ _, SeqAt.RcNeAt.int_int _ _ _ _⟩
  | .int p, .str q, _, _, _, _, _, e, .int _, .str _, r1, r2 => by
    cases e
    obtain ⟨t, rfl⟩ := r1
    obtain ⟨t2, rfl⟩ := r2
    exact ⟨SeqAt.RcAt.int_str _ _ _ _, SeqAt.EqAt.int_str _ _ _ _, SeqAt.RcNeAt.int_str _ _ _ _⟩
  | .str p, .non, _, _, _, _, _, e, .str _, .non, r1, r2 => by
    cases e
    obtain ⟨t, rfl⟩ := r1
    cases r2
    exact ⟨SeqAt.RcAt.str_none _ _, SeqAt.EqAt.str_none _ _, SeqAt.RcNeAt.str_none _ _⟩
  | .str p, .bl q, _, _, _, _, _, e, .str _, .bl _, r1, r2 => by
    cases e
    obtain ⟨t, rfl⟩ := r1
    cases r2
    exact ⟨SeqAt.RcAt.str_bool _ _ _, SeqAt.EqAt.str_bool _ _ _, SeqAt.RcNeAt.str_bool _ _ _⟩
  | .str p, .int q, _, _, _, _, _, e, .str _, .int _, r1, r2 => by
    cases e
    obtain ⟨t, rfl⟩ := r1
    obtain ⟨t2, rfl⟩ := r2
    exact ⟨SeqAt.RcAt.str_int _ _ _ _, SeqAt.EqAt.str_int _ _ _ _, SeqAt.RcNeAt.str_int _ _ _ _⟩
  | .str p, .str q, _, _, _, _, _, e, .str _, .str _, r1, r2 => by
    cases e
    obtain ⟨t, rfl⟩ := r1
    obtain ⟨t2, rfl⟩ := r2
    exact ⟨SeqAt.RcAt.str_str _ _ _ _, SeqAt.EqAt.str_str _ _ _ _, SeqAt.RcNeAt.str_str _ _ _ _⟩
  | .tup _, _, _, _, _, _, _, e, _, _, r1, r2 => by cases e
  | .lst _, _, _, _, _, _, _, e, _, _, r1, r2 => by cases e
  | .dic _, _, _, _, _, _, _, e, _, _, r1, r2 => by cases e
  | .scr _, _, _, _, _, _, _, e, _, _, r1, r2 => by cases e
  | .ref _, _, _, _, _, _, _, e, _, _, r1, r2 => by cases e
  | .non, .tup _, _, _, _, _, _, e, _, _, r1, r2 => by cases e
  | .bl p, .tup _, _, _, _, _, _, e, _, _, r1, r2 => by cases e
  | .int p, .tup _, _, _, _, _, _, e, _, _, r1, r2 => by cases e
  | .str p, .tup _, _, _, _, _, _, e, _, _, r1, r2 => by cases e
  | .non, .lst _, _, _, _, _, _, e, _, _, r1, r2 => by cases e
  | .bl p, .lst _, _, _, _, _, _, e, _, _, r1, r2 => by cases e
  | .int p, .lst _, _, _, _, _, _, e, _, _, r1, r2 => by cases e
  | .str p, .lst _, _, _, _, _, _, e, _, _, r1, r2 => by cases e
  | .non, .dic _, _, _, _, _, _, e, _, _, r1, r2 => by cases e
  | .bl p, .dic _, _, _, _, _, _, e, _, _, r1, r2 => by cases e
  | .int p, .dic _, _, _, _, _, _, e, _, _, r1, r2 => by cases e
  | .str p, .dic _, _, _, _, _, _, e, _, _, r1, r2 => by cases e
  | .non, .ref _, _, _, _, _, _, e, _, _, r1, r2 => by cases e
  | .non, .scr _, _, _, _, _, _, e, _, _, r1, r2 => by cases e
  | .bl p, .ref _, _, _, _, _, _, e, _, _, r1, r2 => by cases e
  | .bl p, .scr _, _, _, _, _, _, e, _, _, r1, r2 => by cases e
  | .int p, .ref _, _, _, _, _, _, e, _, _, r1, r2 => by cases e
  | .int p, .scr _, _, _, _, _, _, e, _, _, r1, r2 => by cases e
  | .str p, .ref _, _, _, _, _, _, e, _, _, r1, r2 => by cases e
  | .str p, .scr _, _, _, _, _, _, e, _, _, r1, r2 => by cases e
/-- the items' answers, by places -/
theorem eqAll_at {f : D → D → Option Bool} {P : Value → Value → Bool → Prop} {g : G}
    (ih : ∀ x y b vx vy v u, f x y = some b → Rep X.K g vx x → Rep X.K g vy y → RelV vx v → RelV vy u → P v u b) :
    ∀ {xs ys : List D} {b : Bool} {vs ws : List V} {us zs : List Value}, eqAll f xs ys = some b → RepL X.K g vs xs → RepL X.K g ws ys → Vals vs us → Vals ws zs →
      ∃ e : Nat → Bool, (∀ j (h1 : j < us.length) (h2 : j < zs.length), P us[j] zs[j] (e j)) ∧ b = ((List.range (min us.length zs.length)).all e && us.length == zs.length)
  | [], [], b, _, _, _, _, h, .nil, .nil, .nil, .nil => by
    cases h
    exact ⟨fun _ => true, fun j h1 => absurd h1 (Nat.not_lt_zero _), rfl⟩
  | [], _ :: _, b, _, _, _, _, h, .nil, .cons _ _, .nil, .cons _ _ => by
    cases h
    exact ⟨fun _ => true, fun j h1 => absurd h1 (Nat.not_lt_zero _), by simp⟩
  | _ :: _, [], b, _, _, _, _, h, .cons _ _, .nil, .cons _ _, .nil => by
    cases h
    exact ⟨fun _ => true, fun j _ h1 => absurd h1 (Nat.not_lt_zero _), by simp⟩
  | x :: xs, y :: ys, b, _, _, _, _, h, .cons a1 b1, .cons a2 b2, .cons c1 d1, .cons c2 d2 => by
    simp only [eqAll] at h
    split at h
    · rename_i p q e1 e2
      cases h
      obtain ⟨e, he, hb⟩ := eqAll_at ih e2 b1 b2 d1 d2
      refine ⟨fun j => match j with | 0 => p | j + 1 => e j, fun j h1 h2 => ?_, ?_⟩
      · cases j with
        | zero => exact ih _ _ _ _ _ _ _ e1 a1 a2 c1 c2
        | succ j => exact he j (Nat.lt_of_succ_lt_succ h1) (Nat.lt_of_succ_lt_succ h2)
      · rw [hb, List.length_cons, List.length_cons, Nat.succ_min_succ, List.range_succ_eq_map, List.all_cons, List.all_map, ← Bool.and_assoc]
        congr 1
        simp
    · cases h
theorem same_true (I : Inv X pins σ H s) (sb : Sub g.F H) : ∀ (n : Nat) {x y : D} {b : Bool} {v : V}, eqvO n x y = some b → Rep X.K g v x → Rep X.K g v y → b = true := by
  have base : ∀ {x y : D} {b : Bool} {v : V}, eqS x y = some b → Rep X.K g v x → Rep X.K g v y → b = true := by
    intro x y b v e rx ry
    cases x <;> cases y <;> first
      | (cases e; done)
      | (simp only [eqS, Option.some.injEq] at e
         subst e
         cases rx <;> cases ry <;> simp)
  have all : ∀ {f : D → D → Option Bool}, (∀ {x y : D} {b : Bool} {v : V}, f x y = some b → Rep X.K g v x → Rep X.K g v y → b = true) →
      ∀ {xs ys : List D} {b : Bool} {vs : List V}, eqAll f xs ys = some b → RepL X.K g vs xs → RepL X.K g vs ys → b = true := by
    intro f ih xs
    induction xs with
    | nil =>
      intro ys b vs e r1 r2
      cases r1; cases r2; cases e; rfl
    | cons x xs ihx =>
      intro ys b vs e r1 r2
      cases r1 with
      | cons a1 b1 =>
        cases r2 with
        | cons a2 b2 =>
          simp only [eqAll] at e
          split at e
          · rename_i p q e1 e2
            cases e
            rw [ih e1 a1 a2, ihx e2 b1 b2]; rfl
          · cases e
  intro n
  induction n with
  | zero => exact base
  | succ n ih =>
    intro x y b v e rx ry
    cases x with
    | tup xs =>
      cases y with
      | tup ys =>
        cases rx with
        | tup h1 r1 =>
          cases ry with
          | tup h2 r2 =>
            have z := I.tuple_inj (sqT_mono sb h1) (sqT_mono sb h2)
            subst z
            exact all ih (show eqAll (eqvO n) _ _ = some b from e) r1 r2
      | lst ys =>
        cases rx with
        | tup h1 r1 =>
          cases ry with
          | lst h2 r2 => exact (tup_not_lst I (sqT_mono sb h1) (sb _ _ h2)).elim
      | _ => first | (cases e; done) | (cases rx; cases ry)
    | lst xs =>
      cases y with
      | lst ys =>
        cases rx with
        | lst h1 r1 =>
          cases ry with
          | lst h2 r2 =>
            have z := (sb _ _ h1).symm.trans (sb _ _ h2)
            cases z
            exact all ih (show eqAll (eqvO n) _ _ = some b from e) r1 r2
      | tup ys =>
        cases rx with
        | lst h1 r1 =>
          cases ry with
          | tup h2 r2 => exact (tup_not_lst I (sqT_mono sb h2) (sb _ _ h1)).elim
      | _ => first | (cases e; done) | (cases rx; cases ry)
    | _ => cases y <;> first | (cases e; done) | exact base e rx ry | (cases rx; cases ry)
theorem eqvO_at (I : Inv X pins σ H s) (sb : Sub g.F H) : ∀ (n : Nat) {x y : D} {b : Bool} {vx vy : V} {v u : Value} {A : Around}, A.units + n < cLine →
    eqvO n x y = some b → Rep X.K g vx x → Rep X.K g vy y → RelV vx v → RelV vy u → EqT X s A v u b := by
  intro n
  induction n with
  | zero => intro x y b vx vy v u A hu e rx ry r1 r2; exact eqS_at e rx ry r1 r2
  | succ n ih =>
    intro x y b vx vy v u A hu e rx ry r1 r2
    have hu1 : A.units < cLine := by omega
    have refs : ∀ {l m : Addr} {k : Bool}, (SeqAt.RcAt A s (.ref l) (.ref m) k ∧ SeqAt.RcNeAt A s (.ref l) (.ref m) (!k)) → (l = m → k = true) → EqT X s A (.ref l) (.ref m) k := fun {l m k} ⟨h, hn⟩ h' => by
      refine ⟨h, ?_, hn⟩
      by_cases z : l = m
      · rw [h' z, z]; exact SeqAt.EqAt.same _
      · exact SeqAt.EqAt.of_refs z h
    have step : ∀ {xs ys : List D} {vs ws : List V} {us zs : List Value} {b : Bool}, eqAll (eqvO n) xs ys = some b → RepL X.K g vs xs → RepL X.K g ws ys → Vals vs us → Vals ws zs →
        ∃ e : Nat → Bool, (∀ j (h1 : j < us.length) (h2 : j < zs.length), SeqAt.EqAt A.in1 s us[j] zs[j] (e j)) ∧ b = ((List.range (min us.length zs.length)).all e && us.length == zs.length) :=
      fun he q1 q2 q3 q4 => eqAll_at (P := fun v u b => SeqAt.EqAt A.in1 s v u b) (fun x y b vx vy v u e a1 a2 a3 a4 => (ih (A := A.in1) (by show A.units + 1 + n < cLine; omega) e a1 a2 a3 a4).2.1) he q1 q2 q3 q4
    have sT : ∀ {xs ys : List D}, x = .tup xs → y = .tup ys → EqT X s A v u b := by
      rintro xs ys rfl rfl
      have sm : ∀ {v : V}, Rep X.K g v (.tup xs) → Rep X.K g v (.tup ys) → b = true := fun h1 h2 => same_true I sb (n + 1) e h1 h2
      cases rx with
      | tup h1 q1 =>
        cases ry with
        | tup h2 q2 =>
          cases (show v = Value.ref _ from r1)
          cases (show u = Value.ref _ from r2)
          obtain ⟨us, rv, t1, _⟩ := I.tuple (sqT_mono sb h1)
          obtain ⟨zs, rz, t2, _⟩ := I.tuple (sqT_mono sb h2)
          obtain ⟨f, hf, hb⟩ := step e q1 q2 rv rz
          refine refs ?_ fun z => ?_
          · rw [hb]
            have hj : ∀ j (h1 : j < us.toArray.size) (h2 : j < zs.toArray.size), SeqAt.EqAt A.in1 s us.toArray[j] zs.toArray[j] (f j) := fun j h1 h2 => by
              have := hf j (by simpa using h1) (by simpa using h2)
              simpa using this
            have k := SeqAt.RcAt.tuples (e := f) t1 t2 hu1 hj
            have kn := SeqAt.RcNeAt.tuples (e := f) t1 t2 hu1 hj
            exact ⟨by simpa using k, by simpa using kn⟩
          · subst z
            exact sm (.tup h1 q1) (.tup h2 q2)
    have sL : ∀ {xs ys : List D}, x = .lst xs → y = .lst ys → EqT X s A v u b := by
      rintro xs ys rfl rfl
      have sm : ∀ {v : V}, Rep X.K g v (.lst xs) → Rep X.K g v (.lst ys) → b = true := fun h1 h2 => same_true I sb (n + 1) e h1 h2
      cases rx with
      | lst h1 q1 =>
        cases ry with
        | lst h2 q2 =>
          cases (show v = Value.ref _ from r1)
          cases (show u = Value.ref _ from r2)
          obtain ⟨us, rv, t1, _⟩ := I.list (.of (sb _ _ h1))
          obtain ⟨zs, rz, t2, _⟩ := I.list (.of (sb _ _ h2))
          obtain ⟨f, hf, hb⟩ := step e q1 q2 rv rz
          refine refs ?_ fun z => ?_
          · by_cases hl : us.length = zs.length
            · have hj : ∀ j (h1 : j < us.toArray.size) (h2 : j < zs.toArray.size), SeqAt.EqAt A.in1 s us.toArray[j] zs.toArray[j] (f j) := fun j h1 h2 => by
                have := hf j (by simpa using h1) (by simpa using h2)
                simpa using this
              have k := SeqAt.RcAt.lists (e := f) t1.isList t2.isList (by simpa using hl) hu1 hj
              have kn := SeqAt.RcNeAt.lists (e := f) t1.isList t2.isList (by simpa using hl) hu1 hj
              have : b = (List.range us.toArray.size).all f := by
                rw [hb, ← hl, Nat.min_self]; simp
              rw [this]; exact ⟨k, kn⟩
            · have : b = false := by rw [hb]; simp [hl]
              rw [this]
              exact ⟨SeqAt.RcAt.lists_lengths t1.isList t2.isList (by simpa using hl) hu1, SeqAt.RcNeAt.lists_lengths t1.isList t2.isList (by simpa using hl) hu1⟩
          · subst z
            exact sm (.lst h1 q1) (.lst h2 q2)
    -- the mixed ones
    have tupO : ∀ {xs : List D} {w : V} {c : Value}, Rep X.K g w (.tup xs) → RelV w c → ∃ a its, c = .ref a ∧ s.heap.IsTuple a its := by
      intro xs w c r rc
      cases r with
      | tup h q =>
        cases (show c = Value.ref _ from rc)
        obtain ⟨us, _, t, _⟩ := I.tuple (sqT_mono sb h)
        exact ⟨_, _, rfl, t⟩
    have lstO : ∀ {xs : List D} {w : V} {c : Value}, Rep X.K g w (.lst xs) → RelV w c → ∃ a its, c = .ref a ∧ s.heap.IsList a its := by
      intro xs w c r rc
      cases r with
      | lst h q =>
        cases (show c = Value.ref _ from rc)
        obtain ⟨us, _, t, _⟩ := I.list (.of (sb _ _ h))
        exact ⟨_, _, rfl, t.isList⟩
    cases x <;> cases y <;> first
      | (cases e; done)
      | exact eqS_at e rx ry r1 r2
      | exact sT rfl rfl
      | exact sL rfl rfl
      | (cases e
         obtain ⟨a, i1, rfl, t1⟩ := tupO rx r1
         obtain ⟨b, i2, rfl, t2⟩ := lstO ry r2
         exact ⟨SeqAt.RcAt.tuple_list t1 t2 hu1, SeqAt.EqAt.tuple_list t1 t2 hu1, SeqAt.RcNeAt.tuple_list t1 t2 hu1⟩)
      | (cases e
         obtain ⟨a, i1, rfl, t1⟩ := lstO rx r1
         obtain ⟨b, i2, rfl, t2⟩ := tupO ry r2
         exact ⟨SeqAt.RcAt.list_tuple t1 t2 hu1, SeqAt.EqAt.list_tuple t1 t2 hu1, SeqAt.RcNeAt.list_tuple t1 t2 hu1⟩)
      | (cases e
         obtain ⟨a, i1, rfl, t1⟩ := tupO rx r1
         cases ry
         first
           | (cases r2; first | exact ⟨SeqAt.RcAt.tuple_none t1 hu1, SeqAt.EqAt.tuple_none t1 hu1, SeqAt.RcNeAt.tuple_none t1 hu1⟩ | exact ⟨SeqAt.RcAt.tuple_bool _ t1 hu1, SeqAt.EqAt.tuple_bool _ t1 hu1, SeqAt.RcNeAt.tuple_bool _ t1 hu1⟩)
           | (obtain ⟨t, rfl⟩ := r2; first | exact ⟨SeqAt.RcAt.tuple_int _ _ t1 hu1, SeqAt.EqAt.tuple_int _ _ t1 hu1, SeqAt.RcNeAt.tuple_int _ _ t1 hu1⟩ | exact ⟨SeqAt.RcAt.tuple_str _ _ t1 hu1, SeqAt.EqAt.tuple_str _ _ t1 hu1, SeqAt.RcNeAt.tuple_str _ _ t1 hu1⟩))
      | (cases e
         obtain ⟨a, i1, rfl, t1⟩ := lstO rx r1
         cases ry
         first
           | (cases r2; first | exact ⟨SeqAt.RcAt.list_none t1 hu1, SeqAt.EqAt.list_none t1 hu1, SeqAt.RcNeAt.list_none t1 hu1⟩ | exact ⟨SeqAt.RcAt.list_bool _ t1 hu1, SeqAt.EqAt.list_bool _ t1 hu1, SeqAt.RcNeAt.list_bool _ t1 hu1⟩)
           | (obtain ⟨t, rfl⟩ := r2; first | exact ⟨SeqAt.RcAt.list_int _ _ t1 hu1, SeqAt.EqAt.list_int _ _ t1 hu1, SeqAt.RcNeAt.list_int _ _ t1 hu1⟩ | exact ⟨SeqAt.RcAt.list_str _ _ t1 hu1, SeqAt.EqAt.list_str _ _ t1 hu1, SeqAt.RcNeAt.list_str _ _ t1 hu1⟩))
      | (cases e
         obtain ⟨a, i1, rfl, t1⟩ := tupO ry r2
         cases rx
         first
           | (cases r1; first | exact ⟨SeqAt.RcAt.none_tuple t1 hu1, SeqAt.EqAt.none_tuple t1 hu1, SeqAt.RcNeAt.none_tuple t1 hu1⟩ | exact ⟨SeqAt.RcAt.bool_tuple _ t1 hu1, SeqAt.EqAt.bool_tuple _ t1 hu1, SeqAt.RcNeAt.bool_tuple _ t1 hu1⟩)
           | (obtain ⟨t, rfl⟩ := r1; first | exact ⟨SeqAt.RcAt.int_tuple _ _ t1 hu1, SeqAt.EqAt.int_tuple _ _ t1 hu1, SeqAt.RcNeAt.int_tuple _ _ t1 hu1⟩ | exact ⟨SeqAt.RcAt.str_tuple _ _ t1 hu1, SeqAt.EqAt.str_tuple _ _ t1 hu1, SeqAt.RcNeAt.str_tuple _ _ t1 hu1⟩))
      | (cases e
         obtain ⟨a, i1, rfl, t1⟩ := lstO ry r2
         cases rx
         first
           | (cases r1; first | exact ⟨SeqAt.RcAt.none_list t1 hu1, SeqAt.EqAt.none_list t1 hu1, SeqAt.RcNeAt.none_list t1 hu1⟩ | exact ⟨SeqAt.RcAt.bool_list _ t1 hu1, SeqAt.EqAt.bool_list _ t1 hu1, SeqAt.RcNeAt.bool_list _ t1 hu1⟩)
           | (obtain ⟨t, rfl⟩ := r1; first | exact ⟨SeqAt.RcAt.int_list _ _ t1 hu1, SeqAt.EqAt.int_list _ _ t1 hu1, SeqAt.RcNeAt.int_list _ _ t1 hu1⟩ | exact ⟨SeqAt.RcAt.str_list _ _ t1 hu1, SeqAt.EqAt.str_list _ _ t1 hu1, SeqAt.RcNeAt.str_list _ _ t1 hu1⟩))
end

section
variable {X : Cx} {W : WX}
def rEqM (K : PySem.W.Frag) (neg : Bool) : R2 := fun x y H Q => ∃ g dx dy b, Sub g.F H ∧ Rep K g x dx ∧ Rep K g y dy ∧ eqvO 40 dx dy = some b ∧ Q (.bl (b != neg)) H
theorem op_neM (hu : X.A.units + 64 < cLine) : OpR X (compareOp .NotEq) (rEqM X.K true) := by
  intro pins s σ H x y v u Q I rx ry ⟨g, dx, dy, b, sb, h1, h2, e, q⟩
  refine (eqvO_at I sb 40 (A := X.A) (by omega) e h1 h2 rx ry).2.2 X.prog X.w X.xe _ ⟨.bl (!b), H, I, rfl, ?_⟩
  have : (b != true) = !b := by cases b <;> rfl
  rw [this] at q; exact q
theorem op_eqM (hu : X.A.units + 64 < cLine) : OpR X (compareOp .Eq) (rEqM X.K false) := by
  intro pins s σ H x y v u Q I rx ry ⟨g, dx, dy, b, sb, h1, h2, e, q⟩
  refine (eqvO_at I sb 40 (A := X.A) (by omega) e h1 h2 rx ry).1 X.prog X.w X.xe _ ⟨.bl b, H, I, rfl, ?_⟩
  have : (b != false) = b := by cases b <;> rfl
  rw [this] at q; exact q
end
end MI
/-! # Comparisons as expressions and tests; and, or, not; a if t else b -/
namespace MI
open PySem L2

section
variable {X : Cx} {W : WX}
def opEq (neg : Bool) : S → RV → RV → Res RV := fun s a b => match asD s a, asD s b with
  | some x, some y => match eqvO 40 x y with
    | some r => .ok (.d (.bl (r != neg))) s
    | none => .stuck
  | _, _ => .stuck
theorem os_eq {neg : Bool} : OpS X W (rEqM X.K neg) (opEq neg) := by
  intro σ g s H Q x y ra rb ok rx ry nn q
  unfold opEq at q
  split at q
  · rename_i dx dy e1 e2
    split at q
    · rename_i r e
      obtain ⟨g1, l1, sb1, r1⟩ := asD_ok ok (GLe.refl g) ok.sub rx e1
      obtain ⟨g2, l2, sb2, r2⟩ := asD_ok ok l1 sb1 ry e2
      exact ⟨g2, dx, dy, r, sb2, r1.mono l2, r2, e, kE_d q ok (.bl _)⟩
    · exact q.elim
  · exact q.elim
/-! ### <, <=, >, >= of ints and texts -/
def fS (f : Str → Str → Bool) : S → RV → RV → Res RV := fun s a b => match asStr a, asStr b with
  | some x, some y => .ok (.d (.bl (f x y))) s
  | _, _ => .stuck
theorem fS_ok {f : Str → Str → Bool} : OpS X W (fun x y H Q => ∃ i j, x = .str i ∧ y = .str j ∧ Q (.bl (f i j)) H) (fS f) := by
  intro σ g s H Q x y ra rb ok rx ry nn q
  unfold fS at q
  split at q
  · rename_i i j e1 e2
    exact ⟨i, j, asStr_ok rx e1, asStr_ok ry e2, kE_d q ok (.bl _)⟩
  · exact q.elim
theorem fI0_ok {f : Int → Int → Bool} : OpS X W (rI0 fun i j => .bl (f i j)) (fI cT fun i j => .bl (f i j)) :=
  fun σ g s H Q x y ra rb ok rx ry nn q => rI0_of (fI_ok (C' := fun _ _ => True) (fun _ _ _ => trivial) (fun _ _ i j => .bl _) σ g s H Q x y ra rb ok rx ry nn q)
def strLt (x y : Str) : Bool := decide (x.cps.toList < y.cps.toList)
def opLt := orF (fI cT fun i j => .bl (decide (i < j))) (fS fun x y => strLt x y)
def opLe := orF (fI cT fun i j => .bl (decide (i ≤ j))) (fS fun x y => !strLt y x)
def opGt := orF (fI cT fun i j => .bl (decide (j < i))) (fS fun x y => strLt y x)
def opGe := orF (fI cT fun i j => .bl (decide (j ≤ i))) (fS fun x y => !strLt x y)
/-! ### in, not in, by == of data -/
def anyO (f : D → Option Bool) : List D → Option Bool
  | [] => some false
  | x :: xs => match f x, anyO f xs with
    | some a, some b => some (a || b)
    | _, _ => none
def asItems (s : S) (r : RV) : Option (List D) := match asTup r with
  | some xs => some xs
  | none => asLst s r
def opIn (neg : Bool) : S → RV → RV → Res RV := fun s a b => match asD s a, asItems s b with
  | some x, some ys => match anyO (fun y => eqvO 40 y x) ys with
    | some r => .ok (.d (.bl (r != neg))) s
    | none => .stuck
  | _, _ => .stuck
def rInM (K : PySem.W.Frag) (neg : Bool) : R2 := fun x y H Q => ∃ g a vs dx ys b, Sub g.F H ∧ y = .ref a ∧ (SqL K H a vs ∨ SqT K H a vs) ∧ Rep K g x dx ∧ RepL K g vs ys ∧ anyO (fun y => eqvO 40 y dx) ys = some b ∧ Q (.bl (b != neg)) H
end
section
variable {X : Cx} {pins : List (Addr × Obj)} {σ : St} {g : G} {H : Hp} {s : Shared}
theorem eqvO_fun (I : Inv X pins σ H s) (sb : Sub g.F H) : ∀ (n : Nat) {x x' y : D} {b b' : Bool} {v : V}, eqvO n x y = some b → eqvO n x' y = some b' → Rep X.K g v x → Rep X.K g v x' → b = b' := by
  have sc : ∀ {x x' : D} {v : V}, (∀ xs, x ≠ .tup xs) → (∀ xs, x ≠ .lst xs) → (∀ n, x ≠ .ref n) → (∀ kvs, x ≠ .dic kvs) → (∀ kvs, x ≠ .scr kvs) → Rep X.K g v x → Rep X.K g v x' → x = x' := by
    intro x x' v h1 h2 h3 h4 h5 r r'
    cases r with
    | non => cases r'; rfl
    | bl b => cases r'; rfl
    | int i => cases r'; rfl
    | str x => cases r'; rfl
    | tup _ _ => exact absurd rfl (h1 _)
    | lst _ _ => exact absurd rfl (h2 _)
    | dic _ _ => exact absurd rfl (h4 _)
    | ref n _ => exact absurd rfl (h3 _)
    | scr _ _ => exact absurd rfl (h5 _)
  have all : ∀ {f : D → D → Option Bool}, (∀ {x x' y : D} {b b' : Bool} {v : V}, f x y = some b → f x' y = some b' → Rep X.K g v x → Rep X.K g v x' → b = b') →
      ∀ {xs xs' ys : List D} {b b' : Bool} {vs : List V}, eqAll f xs ys = some b → eqAll f xs' ys = some b' → RepL X.K g vs xs → RepL X.K g vs xs' → b = b' := by
    intro f ih xs
    induction xs with
    | nil =>
      intro xs' ys b b' vs e e' r1 r2
      cases r1; cases r2
      rw [e] at e'; cases e'; rfl
    | cons x xs ihx =>
      intro xs' ys b b' vs e e' r1 r2
      cases r1 with
      | cons a1 b1 =>
        cases r2 with
        | cons a2 b2 =>
          cases ys with
          | nil => cases e; cases e'; rfl
          | cons y ys =>
            simp only [eqAll] at e e'
            split at e
            · rename_i p q e1 e2
              split at e'
              · rename_i p' q' e1' e2'
                cases e; cases e'
                rw [ih e1 e1' a1 a2, ihx e2 e2' b1 b2]
              · cases e'
            · cases e
  intro n
  induction n with
  | zero =>
    intro x x' y b b' v e e' r r'
    have := sc (x := x) (x' := x') (fun xs z => by subst z; cases y <;> cases e) (fun xs z => by subst z; cases y <;> cases e) (fun xs z => by subst z; cases y <;> cases e) (fun xs z => by subst z; cases y <;> cases e) (fun xs z => by subst z; cases y <;> cases e) r r'
    subst this
    rw [e] at e'; cases e'; rfl
  | succ n ih =>
    intro x x' y b b' v e e' r r'
    cases x with
    | tup xs =>
      cases r with
      | tup h1 r1 =>
        cases r' with
        | tup h2 r2 =>
          have z := I.tuple_inj (sqT_mono sb h1) (sqT_mono sb h2)
          subst z
          cases y with
          | tup ys => exact all (f := eqvO n) ih (show eqAll (eqvO n) _ _ = some b from e) (show eqAll (eqvO n) _ _ = some b' from e') r1 r2
          | dic _ => cases e
          | ref _ => cases e
          | scr _ => cases e
          | _ => cases e; cases e'; rfl
        | lst h2 r2 => exact (tup_not_lst I (sqT_mono sb h1) (sb _ _ h2)).elim
        | dic h2 r2 => cases y <;> cases e'
        | ref n _ => cases y <;> cases e'
        | scr _ _ => cases y <;> cases e'
    | lst xs =>
      cases r with
      | lst h1 r1 =>
        cases r' with
        | lst h2 r2 =>
          have z := (sb _ _ h1).symm.trans (sb _ _ h2)
          cases z
          cases y with
          | lst ys => exact all (f := eqvO n) ih (show eqAll (eqvO n) _ _ = some b from e) (show eqAll (eqvO n) _ _ = some b' from e') r1 r2
          | dic _ => cases e
          | ref _ => cases e
          | scr _ => cases e
          | _ => cases e; cases e'; rfl
        | tup h2 r2 => exact (tup_not_lst I (sqT_mono sb h2) (sb _ _ h1)).elim
        | dic h2 r2 => cases y <;> cases e'
        | ref n _ => cases y <;> cases e'
        | scr _ _ => cases y <;> cases e'
    | dic _ => cases y <;> cases e
    | ref _ => cases y <;> cases e
    | scr _ => cases y <;> cases e
    | _ =>
      have := sc (x' := x') (fun xs z => by cases z) (fun xs z => by cases z) (fun xs z => by cases z) (fun xs z => by cases z) (fun xs z => by cases z) r r'
      subst this
      rw [e] at e'; cases e'; rfl
theorem any_at (I : Inv X pins σ H s) (sb : Sub g.F H) {A : Around} (hu : A.units + 40 < cLine) {dx : D} {vx : V} {v : Value} (rx : Rep X.K g vx dx) (rv : RelV vx v) :
    ∀ {ys : List D} {b : Bool} {vs : List V} {us : List Value}, anyO (fun y => eqvO 40 y dx) ys = some b → RepL X.K g vs ys → Vals vs us →
      ∃ e : Value → Bool, (∀ u ∈ us, SeqAt.EqAt A s u v (e u)) ∧ b = us.any e := by
  classical
  -- a value's answer by the value alone
  let e : Value → Bool := fun u => decide (∃ w d, RelV w u ∧ Rep X.K g w d ∧ eqvO 40 d dx = some true)
  have he : ∀ {u : Value} {w : V} {d : D} {k : Bool}, RelV w u → Rep X.K g w d → eqvO 40 d dx = some k → e u = k := by
    intro u w d k r1 r2 q
    cases k with
    | true => exact decide_eq_true ⟨w, d, r1, r2, q⟩
    | false =>
      refine decide_eq_false fun ⟨w', d', r1', r2', q'⟩ => ?_
      cases r1.inj r1'
      cases eqvO_fun I sb 40 q q' r2 r2'
  suffices key : ∀ {ys : List D} {b : Bool} {vs : List V} {us : List Value}, anyO (fun y => eqvO 40 y dx) ys = some b → RepL X.K g vs ys → Vals vs us →
      (∀ u ∈ us, SeqAt.EqAt A s u v (e u)) ∧ b = us.any e by
    intro ys b vs us h r1 r2
    exact ⟨e, key h r1 r2⟩
  intro ys
  induction ys with
  | nil =>
    intro b vs us h r1 r2
    cases r1; cases r2; cases h
    exact ⟨(fun u hu => nomatch hu), rfl⟩
  | cons y ys ih =>
    intro b vs us h r1 r2
    cases r1 with
    | cons a1 b1 =>
      cases r2 with
      | cons c1 d1 =>
        simp only [anyO] at h
        split at h
        · rename_i p q e1 e2
          cases h
          obtain ⟨i1, i2⟩ := ih e2 b1 d1
          have z := (eqvO_at I sb 40 (A := A) hu e1 a1 rx c1 rv).2.1
          have ze := he c1 a1 e1
          refine ⟨fun u hu => ?_, ?_⟩
          · rcases List.mem_cons.mp hu with rfl | hu
            · rw [ze]; exact z
            · exact i1 u hu
          · rw [List.any_cons, ze, ← i2]
        · cases h
end
section
variable {X : Cx} {W : WX}
theorem op_inM (hu : X.A.units + 64 < cLine) : OpR X (compareOp .In) (rInM X.K false) := by
  intro pins s σ H x y v u Q I rx ry ⟨g, a, vs, dx, ys, b, sb, hy, hq, r1, r2, e, q⟩
  subst hy
  cases (show u = Value.ref a from ry)
  have q' : Q (.bl b) H := by
    have : (b != false) = b := by cases b <;> rfl
    rw [this] at q; exact q
  have hu' : X.A.in1.units + 40 < cLine := by show X.A.units + 1 + 40 < cLine; omega
  rcases hq with hq | hq
  · obtain ⟨its, r, pl, hz⟩ := I.list hq
    obtain ⟨f, hf, hb⟩ := any_at I sb hu' r1 rx e r2 r
    refine SeqAt.in_listAt f pl.isList (fun w hw => hf w (by simpa using hw)) ⟨.bl b, H, I, ?_, q'⟩
    show Value.bool _ = _
    rw [hb]; simp
  · obtain ⟨its, r, pl, hz⟩ := I.tuple hq
    obtain ⟨f, hf, hb⟩ := any_at I sb hu' r1 rx e r2 r
    refine SeqAt.in_tupleAt f pl (fun w hw => hf w (by simpa using hw)) ⟨.bl b, H, I, ?_, q'⟩
    show Value.bool _ = _
    rw [hb]; simp
theorem op_notInM (hu : X.A.units + 64 < cLine) : OpR X (compareOp .NotIn) (rInM X.K true) := by
  intro pins s σ H x y v u Q I rx ry ⟨g, a, vs, dx, ys, b, sb, hy, hq, r1, r2, e, q⟩
  subst hy
  cases (show u = Value.ref a from ry)
  have q' : Q (.bl (!b)) H := by
    have : (b != true) = !b := by cases b <;> rfl
    rw [this] at q; exact q
  have hu' : X.A.in1.units + 40 < cLine := by show X.A.units + 1 + 40 < cLine; omega
  rcases hq with hq | hq
  · obtain ⟨its, r, pl, hz⟩ := I.list hq
    obtain ⟨f, hf, hb⟩ := any_at I sb hu' r1 rx e r2 r
    refine SeqAt.notIn_listAt f pl.isList (fun w hw => hf w (by simpa using hw)) ⟨.bl (!b), H, I, ?_, q'⟩
    show Value.bool _ = _
    rw [hb]; simp
  · obtain ⟨its, r, pl, hz⟩ := I.tuple hq
    obtain ⟨f, hf, hb⟩ := any_at I sb hu' r1 rx e r2 r
    refine SeqAt.notIn_tupleAt f pl (fun w hw => hf w (by simpa using hw)) ⟨.bl (!b), H, I, ?_, q'⟩
    show Value.bool _ = _
    rw [hb]; simp
theorem os_in {neg : Bool} : OpS X W (rInM X.K neg) (opIn neg) := by
  intro σ g s H Q x y ra rb ok rx ry nn q
  unfold opIn at q
  split at q
  · rename_i dx ys e1 e2
    split at q
    · rename_i r e
      obtain ⟨g1, l1, sb1, r1⟩ := asD_ok ok (GLe.refl g) ok.sub rx e1
      unfold asItems at e2
      split at e2
      · rename_i zs e3
        cases e2
        obtain ⟨a, vs, rfl, h, r2⟩ := asTup_ok ok ry e3
        exact ⟨g1, a, vs, dx, ys, r, sb1, rfl, .inr h, r1, r2.mono l1, e, kE_d q ok (.bl _)⟩
      · obtain ⟨a, vs, rfl, h, r2⟩ := asLst_ok ok ry e2
        exact ⟨g1, a, vs, dx, ys, r, sb1, rfl, .inl (.of h), r1, r2.mono l1, e, kE_d q ok (.bl _)⟩
    · exact q.elim
  · exact q.elim
variable {a b c : Expr} {ma mb mc : M} {pos : Pos}
theorem me_eq (hu : X.A.units + 64 < cLine) (ha : ME X W a ma) (hb : ME X W b mb) : ME X W (.Compare a [.Eq] [b] pos) (mBin (opEq false) ma mb) := me_cmp (op_eqM hu) os_eq ha hb (nomark _)
theorem me_ne (hu : X.A.units + 64 < cLine) (ha : ME X W a ma) (hb : ME X W b mb) : ME X W (.Compare a [.NotEq] [b] pos) (mBin (opEq true) ma mb) := me_cmp (op_neM hu) os_eq ha hb (nomark _)
theorem or_lt : OpR X (compareOp .Lt) (fun x y H Q => rI0 (fun i j => .bl (decide (i < j))) x y H Q ∨ ∃ i j, x = .str i ∧ y = .str j ∧ Q (.bl (strLt i j)) H) := op_lt.or op_lt_str
theorem or_le : OpR X (compareOp .LtE) (fun x y H Q => rI0 (fun i j => .bl (decide (i ≤ j))) x y H Q ∨ ∃ i j, x = .str i ∧ y = .str j ∧ Q (.bl (!strLt j i)) H) := op_le.or op_le_str
theorem or_gt : OpR X (compareOp .Gt) (fun x y H Q => rI0 (fun i j => .bl (decide (j < i))) x y H Q ∨ ∃ i j, x = .str i ∧ y = .str j ∧ Q (.bl (strLt j i)) H) := op_gt.or op_gt_str
theorem or_ge : OpR X (compareOp .GtE) (fun x y H Q => rI0 (fun i j => .bl (decide (j ≤ i))) x y H Q ∨ ∃ i j, x = .str i ∧ y = .str j ∧ Q (.bl (!strLt i j)) H) := op_ge.or op_ge_str
theorem os_lt : OpS X W (fun x y H Q => rI0 (fun i j => .bl (decide (i < j))) x y H Q ∨ ∃ i j, x = .str i ∧ y = .str j ∧ Q (.bl (strLt i j)) H) opLt := fI0_ok.or fS_ok
theorem os_le : OpS X W (fun x y H Q => rI0 (fun i j => .bl (decide (i ≤ j))) x y H Q ∨ ∃ i j, x = .str i ∧ y = .str j ∧ Q (.bl (!strLt j i)) H) opLe := fI0_ok.or fS_ok
theorem os_gt : OpS X W (fun x y H Q => rI0 (fun i j => .bl (decide (j < i))) x y H Q ∨ ∃ i j, x = .str i ∧ y = .str j ∧ Q (.bl (strLt j i)) H) opGt := fI0_ok.or fS_ok
theorem os_ge : OpS X W (fun x y H Q => rI0 (fun i j => .bl (decide (j ≤ i))) x y H Q ∨ ∃ i j, x = .str i ∧ y = .str j ∧ Q (.bl (!strLt i j)) H) opGe := fI0_ok.or fS_ok
theorem me_lt (ha : ME X W a ma) (hb : ME X W b mb) : ME X W (.Compare a [.Lt] [b] pos) (mBin opLt ma mb) := me_cmp or_lt os_lt ha hb (nomark _)
theorem me_le (ha : ME X W a ma) (hb : ME X W b mb) : ME X W (.Compare a [.LtE] [b] pos) (mBin opLe ma mb) := me_cmp or_le os_le ha hb (nomark _)
theorem me_gt (ha : ME X W a ma) (hb : ME X W b mb) : ME X W (.Compare a [.Gt] [b] pos) (mBin opGt ma mb) := me_cmp or_gt os_gt ha hb (nomark _)
theorem me_ge (ha : ME X W a ma) (hb : ME X W b mb) : ME X W (.Compare a [.GtE] [b] pos) (mBin opGe ma mb) := me_cmp or_ge os_ge ha hb (nomark _)
theorem me_in (hu : X.A.units + 64 < cLine) (ha : ME X W a ma) (hb : ME X W b mb) (hm : behindInMarks .In b = false) : ME X W (.Compare a [.In] [b] pos) (mBin (opIn false) ma mb) := me_cmp (op_inM hu) os_in ha hb hm
theorem me_notIn (hu : X.A.units + 64 < cLine) (ha : ME X W a ma) (hb : ME X W b mb) (hm : behindInMarks .NotIn b = false) : ME X W (.Compare a [.NotIn] [b] pos) (mBin (opIn true) ma mb) := me_cmp (op_notInM hu) os_in ha hb hm
/-! ### is None -/
def isNonRV : RV → Bool
  | .d .non => true
  | _ => false
def opIsN (neg : Bool) : S → RV → RV → Res RV := fun s a b => match b with
  | .d .non => .ok (.d (.bl (isNonRV a != neg))) s
  | _ => .stuck
theorem isN_dec {K : PySem.W.Frag} {g : G} {s : S} {H : Hp} {x : V} {ra : RV} (h : RepRV K g s H x ra) : decide (x = .non) = isNonRV ra := by
  cases ra with
  | d y => cases (show Rep K g x y from h) <;> rfl
  | «at» i => cases (show x = _ from h); rfl
  | new o => obtain ⟨a, rfl, _⟩ := h; rfl
theorem os_isN : OpS X W (fun x y H Q => y = .non ∧ Q (.bl (decide (x = .non))) H) (opIsN false) := by
  intro σ g s H Q x y ra rb ok rx ry nn q
  unfold opIsN at q
  split at q
  · cases (show Rep _ _ _ _ from ry)
    refine ⟨rfl, ?_⟩
    rw [isN_dec rx]
    have : ∀ k : Bool, (k != false) = k := fun k => by cases k <;> rfl
    rw [this] at q
    exact kE_d q ok (.bl _)
  · exact q.elim
theorem os_notN : OpS X W (fun x y H Q => y = .non ∧ Q (.bl (!decide (x = .non))) H) (opIsN true) := by
  intro σ g s H Q x y ra rb ok rx ry nn q
  unfold opIsN at q
  split at q
  · cases (show Rep _ _ _ _ from ry)
    refine ⟨rfl, ?_⟩
    rw [isN_dec rx]
    have : ∀ k : Bool, (k != true) = !k := fun k => by cases k <;> rfl
    rw [this] at q
    exact kE_d q ok (.bl _)
  · exact q.elim
theorem me_isN {j p} (ha : ME X W a ma) : ME X W (.Compare a [.Is] [.Constant .none j p] pos) (mBin (opIsN false) ma (mC .non)) := me_cmp op_isN os_isN ha me_non (nomark _)
theorem me_notN {j p} (ha : ME X W a ma) : ME X W (.Compare a [.IsNot] [.Constant .none j p] pos) (mBin (opIsN true) ma (mC .non)) := me_cmp op_notN os_notN ha me_non (nomark _)
end
end MI
/-! # Tests: truth, and, or, not; a if t else b; chains -/
namespace MI
open PySem L2

def truthD : D → Option Bool
  | .non => some false
  | .bl b => some b
  | .int i => some (i != 0)
  | .str x => if x.length ≤ sizeLine then some ((x.length : Int) != 0) else none
  | .tup xs => some (!xs.isEmpty)
  | .lst xs => some (!xs.isEmpty)
  | .dic xs => some (!xs.isEmpty)
  | .ref _ => none
  | .scr xs => some (!xs.isEmpty)
def mTru (m : M) : S → Res Bool := fun s => (m s).bind fun r s1 => match (asD s1 r).bind truthD with
  | some b => .ok b s1
  | none => .stuck
def mNotT (m : S → Res Bool) : S → Res Bool := fun s => (m s).bind fun b s1 => .ok (!b) s1
def mAndT (a b : S → Res Bool) : S → Res Bool := fun s => (a s).bind fun c s1 => if c = true then b s1 else .ok false s1
def mOrT (a b : S → Res Bool) : S → Res Bool := fun s => (a s).bind fun c s1 => if c = true then .ok true s1 else b s1
/-- a test's answer as a value -/
def mVal (m : S → Res Bool) : M := fun s => (m s).bind fun b s1 => .ok (.d (.bl b)) s1
def mIf (t : S → Res Bool) (a b : M) : M := fun s => (t s).bind fun c s1 => if c = true then a s1 else b s1
/-- a bool alone -/
def mBl (m : M) : S → Res Bool := fun s => (m s).bind fun r s1 => match r with
  | .d (.bl b) => .ok b s1
  | _ => .stuck
section
variable {K : PySem.W.Frag} {W : WX} {σ : St} {g : G} {s : S} {H : Hp}
theorem isEmpty_L {vs : List V} {ds : List D} (r : RepL K g vs ds) : vs.isEmpty = ds.isEmpty := by cases r <;> rfl
theorem isEmpty_K {vs : List (Key × V)} {ds : List (Key × D)} (r : RepK K g vs ds) : vs.isEmpty = ds.isEmpty := by cases r <;> rfl
theorem truth_ok {v : V} {r : RV} {b : Bool} (ok : Ok K g s σ H) (h : RepRV K g s H v r) (e : (asD s r).bind truthD = some b) : TruV K v H b := by
  cases e1 : asD s r with
  | none => rw [e1] at e; cases e
  | some d =>
    rw [e1] at e
    have e2 : truthD d = some b := e
    obtain ⟨g1, l, sb, rp⟩ := asD_ok ok (GLe.refl g) ok.sub h e1
    cases rp with
    | non => cases e2; rfl
    | bl c => cases e2; rfl
    | int i => cases e2; rfl
    | str x =>
      simp only [truthD] at e2
      split at e2
      · rename_i hl
        cases e2
        exact ⟨hl, rfl⟩
      · cases e2
    | tup h1 r1 => cases e2; exact .inr (.inl ⟨_, sqT_mono sb h1, by rw [isEmpty_L r1]⟩)
    | lst h1 r1 => cases e2; exact .inl ⟨_, .of (sb _ _ h1), by rw [isEmpty_L r1]⟩
    | dic h1 r1 => cases e2; exact .inr (.inr ⟨_, sb _ _ h1, by rw [isEmpty_K r1]⟩)
    | ref n hn => cases e2
    | scr h1 r1 => cases e2; exact .inl ⟨_, sqL_mono sb h1, by rw [isEmpty_L r1]⟩
end
section
variable {X : Cx} {W : WX} {a b c : Expr} {ma mb mc : M} {ta tb : S → Res Bool} {pos : Pos} {rest : List Expr}
theorem mt_val (ha : ME X W a ma) (he : ∀ whole, isTrue a X.env whole = (do let v ← whole; standAt a.pos; holding [v] (truthy v)) := by intro _; rfl) : MT X W a (mTru ma) := by
  refine pt_imp (pt_truth ha he) fun σ H Q ⟨g, s, ok, h⟩ => ?_
  refine ⟨g, s, ok, (PostE.bind h).mono fun r g1 s1 H1 t1 k1 o1 h1 v rv => ?_⟩
  cases e : (asD s1 r).bind truthD with
  | none => rw [e] at h1; exact h1.elim
  | some k => rw [e] at h1; exact ⟨k, truth_ok o1 rv e, PostE.done h1 o1⟩
/-- a comparison (or what else is a bool) as a test -/
theorem mt_cmp {op : CmpOp} {r : R2} {f : S → RV → RV → Res RV} (ho : OpR X (compareOp op) r) (hs : OpS X W r f) (ha : ME X W a ma) (hb : ME X W b mb) (hm : behindInMarks op b = false) : MT X W (.Compare a [op] [b] pos) (mBl (mBin f ma mb)) := by
  refine pt_imp (pt_cmpR ho ha hb hm) fun σ H Q ⟨g, s, ok, h⟩ => ?_
  show tOp r (tM X.K W ma) (tM X.K W mb) σ H _
  refine tOp_of hs ok ((PostE.bind h).mono fun r g1 s1 H1 t1 k1 o1 h1 v rv => ?_)
  split at h1
  · rename_i k
    cases (show Rep _ _ _ _ from rv)
    exact ⟨k, rfl, PostE.done h1 o1⟩
  · exact h1.elim
theorem mt_not (ha : MT X W a ta) : MT X W (.UnaryOp .Not a pos) (mNotT ta) := by
  refine pt_imp (L2.pt_not ha) fun σ H Q ⟨g, s, ok, h⟩ => ?_
  exact ⟨g, s, ok, (PostE.bind h).mono fun b g1 s1 H1 t1 k1 o1 h1 => PostE.done (W := W) h1 o1⟩
def MW (X : Cx) (W : WX) (e : Expr) (m : S → Res Bool) : Prop := PW X e (tMT X.K W m)
theorem pw_imp {e : Expr} {t t' : TT} (h : PW X e t) (i : ∀ σ H Q, t' σ H Q → t σ H Q) : PW X e t' :=
  ⟨fun wh pins s σ H Q I q => h.run wh pins s σ H Q I (i σ H Q q)⟩
theorem mw_and1 (ha : MT X W a ta) : MW X W (.BoolOp .And [a] pos) ta := pw_and1 ha
theorem mw_or1 (ha : MT X W a ta) : MW X W (.BoolOp .Or [a] pos) ta := pw_or1 ha
theorem mw_and (ha : MT X W a ta) (hb : MW X W (.BoolOp .And (b :: rest) pos) tb) : MW X W (.BoolOp .And (a :: b :: rest) pos) (mAndT ta tb) := by
  refine pw_imp (pw_and ha hb) fun σ H Q ⟨g, s, ok, h⟩ => ?_
  refine ⟨g, s, ok, (PostE.bind h).mono fun c g1 s1 H1 t1 k1 o1 h1 => ?_⟩
  cases c with
  | true => rw [if_pos rfl] at h1; show (if true = true then _ else _); rw [if_pos rfl]; exact ⟨g1, s1, o1, h1⟩
  | false => rw [if_neg (by decide)] at h1; show (if false = true then _ else _); rw [if_neg (by decide)]; exact PostE.done h1 o1
theorem mw_or (ha : MT X W a ta) (hb : MW X W (.BoolOp .Or (b :: rest) pos) tb) : MW X W (.BoolOp .Or (a :: b :: rest) pos) (mOrT ta tb) := by
  refine pw_imp (pw_or ha hb) fun σ H Q ⟨g, s, ok, h⟩ => ?_
  refine ⟨g, s, ok, (PostE.bind h).mono fun c g1 s1 H1 t1 k1 o1 h1 => ?_⟩
  cases c with
  | true => rw [if_pos rfl] at h1; show (if true = true then _ else _); rw [if_pos rfl]; exact PostE.done h1 o1
  | false => rw [if_neg (by decide)] at h1; show (if false = true then _ else _); rw [if_neg (by decide)]; exact ⟨g1, s1, o1, h1⟩
theorem mt_w (h : MW X W a ta) : MT X W a ta := PW.pt h
/-! ### and, or, not as values: of bools -/
def mAndV (a b : M) : M := fun s => (a s).bind fun r s1 => match r with
  | .d (.bl c) => if c = true then b s1 else .ok (.d (.bl false)) s1
  | _ => .stuck
def mOrV (a b : M) : M := fun s => (a s).bind fun r s1 => match r with
  | .d (.bl c) => if c = true then .ok (.d (.bl true)) s1 else b s1
  | _ => .stuck
def mNotV (a : M) : M := fun s => (a s).bind fun r s1 => match r with
  | .d (.bl c) => .ok (.d (.bl (!c))) s1
  | _ => .stuck
/-- not of a value, by its truth -/
def mNotVT (a : M) : M := mVal (mNotT (mTru a))
theorem me_one {op} (ha : ME X W a ma) : ME X W (.BoolOp op [a] pos) ma := pe_one ha
theorem me_and (ha : ME X W a ma) (hb : ME X W (.BoolOp .And (b :: rest) pos) mb) : ME X W (.BoolOp .And (a :: b :: rest) pos) (mAndV ma mb) := by
  refine pe_imp (pe_and ha hb) fun σ H Q ⟨g, s, ok, h⟩ => ?_
  refine ⟨g, s, ok, (PostE.bind h).mono fun r g1 s1 H1 t1 k1 o1 h1 v rv => ?_⟩
  split at h1
  · rename_i c
    cases (show Rep _ _ _ _ from rv)
    refine ⟨c, rfl, ?_⟩
    cases c with
    | true => rw [if_pos rfl] at h1; rw [if_pos rfl]; exact ⟨g1, s1, o1, h1⟩
    | false => rw [if_neg (by decide)] at h1; rw [if_neg (by decide)]; exact kE_d h1 o1 (.bl _)
  · exact h1.elim
theorem me_or (ha : ME X W a ma) (hb : ME X W (.BoolOp .Or (b :: rest) pos) mb) : ME X W (.BoolOp .Or (a :: b :: rest) pos) (mOrV ma mb) := by
  refine pe_imp (pe_or ha hb) fun σ H Q ⟨g, s, ok, h⟩ => ?_
  refine ⟨g, s, ok, (PostE.bind h).mono fun r g1 s1 H1 t1 k1 o1 h1 v rv => ?_⟩
  split at h1
  · rename_i c
    cases (show Rep _ _ _ _ from rv)
    refine ⟨c, rfl, ?_⟩
    cases c with
    | true => rw [if_pos rfl] at h1; rw [if_pos rfl]; exact kE_d h1 o1 (.bl _)
    | false => rw [if_neg (by decide)] at h1; rw [if_neg (by decide)]; exact ⟨g1, s1, o1, h1⟩
  · exact h1.elim
theorem me_not (ha : ME X W a ma) : ME X W (.UnaryOp .Not a pos) (mNotV ma) := by
  refine pe_imp (pe_not ha) fun σ H Q ⟨g, s, ok, h⟩ => ?_
  refine ⟨g, s, ok, (PostE.bind h).mono fun r g1 s1 H1 t1 k1 o1 h1 v rv => ?_⟩
  split at h1
  · rename_i c
    cases (show Rep _ _ _ _ from rv)
    exact ⟨c, rfl, kE_d h1 o1 (.bl _)⟩
  · exact h1.elim
theorem me_if {t : S → Res Bool} (hc : MT X W c t) (ha : ME X W a ma) (hb : ME X W b mb) : ME X W (.IfExp c a b pos) (mIf t ma mb) := by
  refine pe_imp (pe_ifExp hc ha hb) fun σ H Q ⟨g, s, ok, h⟩ => ?_
  refine ⟨g, s, ok, (PostE.bind h).mono fun c g1 s1 H1 t1 k1 o1 h1 => ?_⟩
  cases c with
  | true => rw [if_pos rfl] at h1; show (if true = true then _ else _); rw [if_pos rfl]; exact ⟨g1, s1, o1, h1⟩
  | false => rw [if_neg (by decide)] at h1; show (if false = true then _ else _); rw [if_neg (by decide)]; exact ⟨g1, s1, o1, h1⟩
/-! ### a op b op' c -/
def mChain (f f' : S → RV → RV → Res RV) (a b c : M) : M := fun s => (mSettle a s).bind fun x s1 => (mSettle b s1).bind fun y s2 => (f s2 x y).bind fun z s3 => match z with
  | .d (.bl k) => if k = true then (c s3).bind fun w s4 => f' s4 y w else .ok (.d (.bl false)) s3
  | _ => .stuck
theorem tChain_of {r r' : R2} {f f' : S → RV → RV → Res RV} (hs : OpS X W r f) (hs' : OpS X W r' f') {σ : St} {H : Hp} {Q : VK} {g : G} {s : S} (ok : Ok X.K g s σ H)
    (h : PostE X.K W σ g s H (kE X.K Q) (mChain f f' ma mb mc s)) : tChain r r' (tM X.K W ma) (tM X.K W mb) (tM X.K W mc) σ H Q := by
  refine tM_settle ok (PostE.bind h) fun x g1 s1 H1 v t1 k1 o1 rv nn h1 => ?_
  refine tM_settle o1 (PostE.bind h1) fun y g2 s2 H2 u t2 k2 o2 ru nn2 h2 => ?_
  refine hs σ g2 s2 H2 _ v u x y o2 (rv.held nn t2 k2) ru nn ((PostE.bind h2).mono fun z g3 s3 H3 t3 k3 o3 h3 w rw' => ?_)
  split at h3
  · rename_i k
    cases (show Rep _ _ _ _ from rw')
    refine ⟨k, rfl, ?_⟩
    cases k with
    | true =>
      rw [if_pos rfl] at h3; rw [if_pos rfl]
      refine ⟨g3, s3, o3, (PostE.bind h3).mono fun q g4 s4 H4 t4 k4 o4 h4 w rw' => ?_⟩
      have ru3 : RepRV X.K g3 s3 H3 u y := ru.held nn2 t3 k3
      have ru4 : RepRV X.K g4 s4 H4 u y := ru3.held nn2 t4 k4
      exact hs' σ g4 s4 H4 Q u w y q o4 ru4 rw' nn2 h4
    | false => rw [if_neg (by decide)] at h3; rw [if_neg (by decide)]; exact kE_d h3 o3 (.bl _)
  · exact h3.elim
theorem me_chain {op op' : CmpOp} {r r' : R2} {f f' : S → RV → RV → Res RV} (ho : OpR X (compareOp op) r) (ho' : OpR X (compareOp op') r') (hs : OpS X W r f) (hs' : OpS X W r' f') (ha : ME X W a ma) (hb : ME X W b mb) (hc : ME X W c mc)
    (hm : lastMarks [op, op'] [b, c] = false := by with_unfolding_all rfl) : ME X W (.Compare a [op, op'] [b, c] pos) (mChain f f' ma mb mc) :=
  pe_imp (pe_chain ho ho' ha hb hc hm) fun _ _ _ ⟨_, _, ok, h⟩ => tChain_of hs hs' ok h
theorem mt_chain {op op' : CmpOp} {r r' : R2} {f f' : S → RV → RV → Res RV} (ho : OpR X (compareOp op) r) (ho' : OpR X (compareOp op') r') (hs : OpS X W r f) (hs' : OpS X W r' f') (ha : ME X W a ma) (hb : ME X W b mb) (hc : ME X W c mc)
    (hm : lastMarks [op, op'] [b, c] = false := by with_unfolding_all rfl) : MT X W (.Compare a [op, op'] [b, c] pos) (mBl (mChain f f' ma mb mc)) := by
  refine pt_imp (L2.pt_chain ho ho' ha hb hc hm) fun σ H Q ⟨g, s, ok, h⟩ => ?_
  refine tChain_of hs hs' ok ((PostE.bind h).mono fun r g1 s1 H1 t1 k1 o1 h1 v rv => ?_)
  split at h1
  · rename_i k
    cases (show Rep _ _ _ _ from rv)
    exact ⟨k, rfl, PostE.done h1 o1⟩
  · exact h1.elim
end
end MI
/-! # Argument lists, displays, own functions -/
namespace MI
open PySem PySem.Spec PyProof.Rows L2

def mANil : S → Res (List D) := fun s => .ok [] s
def mACons (a : M) (r : S → Res (List D)) : S → Res (List D) := fun s => (mLeak a s).bind fun d s1 => (r s1).bind fun ds s2 => .ok (d :: ds) s2
def mTup (m : S → Res (List D)) : M := fun s => (m s).bind fun ds s1 => if ds.length ≤ sizeLine then .ok (.d (.tup ds)) s1 else .stuck
def mLst (m : S → Res (List D)) : M := fun s => (m s).bind fun ds s1 => if ds.length ≤ sizeLine then .ok (.new (.lst ds)) s1 else .stuck

section
variable {K : PySem.W.Frag} {W : WX} {σ : L2.St} {g : G} {s : S} {H : Hp}
/-- the leaked reading of a part -/
theorem tM_leak {m : M} {Q : VK} {k : D → G → S → Hp → Prop} (ok : Ok K g s σ H)
    (h : PostE K W σ g s H k (mLeak m s)) (q : ∀ d g' s' H' v, Step g H g' H' → SlKeep g g' → Ok K g' s' σ H' → Rep K g' v d → k d g' s' H' → Q v H') : tM K W m σ H Q := by
  refine ⟨g, s, ok, (PostE.bind h).mono fun r g1 s1 H1 t1 k1 o1 h1 v rv => ?_⟩
  cases e : leak r s1 with
  | none => rw [e] at h1; exact h1.elim
  | some p =>
    obtain ⟨d, s2⟩ := p
    rw [e] at h1
    obtain ⟨g2, t2, k2, o2, rv2⟩ := leak_ok o1 rv e
    exact q d g2 s2 H1 v (t1.trans t2) (k1.trans k2) o2 rv2 (h1 g2 H1 t2 k2 o2)
end
section
variable {X : Cx} {W : WX} {e : Expr} {es : List Expr} {me : M} {m : S → Res (List D)} {pos : Pos}
theorem ma_nil : MA X W [] mANil := pa_imp pa_nil fun σ H Q ⟨g, s, ok, h⟩ => PostE.done h ok _ .nil
theorem ma_cons (ha : ME X W e me) (hr : MA X W es m) (hs : starEach (e :: es) X.env = (false, eval e X.env) :: starEach es X.env := by rfl) : MA X W (e :: es) (mACons me m) := by
  refine pa_imp (pa_cons ha hr hs) fun σ H Q ⟨g, s, ok, h⟩ => ?_
  refine tM_leak ok (PostE.bind h) fun d g1 s1 H1 v t1 k1 o1 rv h1 => ?_
  refine ⟨g1, s1, o1, (PostE.bind h1).mono fun ds g2 s2 H2 t2 k2 o2 h2 vs rs => ?_⟩
  exact PostE.done h2 o2 _ (.cons (rv.mono t2.le) rs)
theorem me_tup {x1} (h : MA X W es m) : ME X W (.Tuple es x1 pos) (mTup m) := by
  refine pe_imp (pe_tup h) fun σ H Q ⟨g, s, ok, h⟩ => ?_
  refine ⟨g, s, ok, (PostE.bind h).mono fun ds g1 s1 H1 t1 k1 o1 h1 vs rs => ?_⟩
  split at h1
  · rename_i hl
    exact ⟨by rw [rs.length]; exact hl, fun p hp => kE_tup h1 o1 hp rs⟩
  · exact h1.elim
theorem me_lst (h : MA X W es m) : ME X W (.List es pos) (mLst m) := by
  refine pe_imp (pe_lst h) fun σ H Q ⟨g, s, ok, h⟩ => ?_
  refine ⟨g, s, ok, (PostE.bind h).mono fun ds g1 s1 H1 t1 k1 o1 h1 vs rs => ?_⟩
  split at h1
  · rename_i hl
    exact ⟨by rw [rs.length]; exact hl, fun p hp => kE_new h1 o1 hp ⟨_, upd_same, rs⟩⟩
  · exact h1.elim
/-- of two readings of one expression the one that is not stuck -/
def orM (a b : M) : M := fun s => match a s with
  | .stuck => b s
  | r => r
theorem pe_or2 {t t' : TE} (h : PE X e t) (h' : PE X e t') : PE X e (fun σ H Q => t σ H Q ∨ t' σ H Q) :=
  ⟨fun pins s σ H Q I q => q.elim (h.run pins s σ H Q I) (h'.run pins s σ H Q I)⟩
theorem me_alt {ma mb : M} (ha : ME X W e ma) (hb : ME X W e mb) : ME X W e (orM ma mb) := by
  refine pe_imp (pe_or2 ha hb) fun σ H Q ⟨g, s, ok, h⟩ => ?_
  unfold orM at h
  cases q : ma s with
  | ok a s' => simp only [q] at h; exact .inl ⟨g, s, ok, by rw [q]; exact h⟩
  | exc c p s' => simp only [q] at h; exact .inl ⟨g, s, ok, by rw [q]; exact h⟩
  | stuck => simp only [q] at h; exact .inr ⟨g, s, ok, h⟩
end

/-! ### own functions -/
inductive CRes where
  | ok (d : D) (gl : List MObj) | exc (c : Str) (p : D) (gl : List MObj) | stuck
abbrev Fm := List D → List MObj → CRes
/-- a function's promise, by its mirror -/
def spM (K : PySem.W.Frag) (f : Fm) : Sp := fun vs H Q E => ∃ g gl ds, Ok K g ⟨[], gl⟩ [] H ∧ RepL K g vs ds ∧ match f ds gl with
  | .ok d gl' => ∀ v g' H', Step g H g' H' → Ok K g' ⟨[], gl'⟩ [] H' → Rep K g' v d → Q v H'
  | .exc c p gl' => ∀ cls dd g' H', Step g H g' H' → Ok K g' ⟨[], gl'⟩ [] H' → ExcRep K g' H' cls dd c p → E cls dd H'
  | .stuck => False
/-- a def's body as a mirror: n parameters, N slots -/
def mDef (n N : Nat) (body : S → Res Out) : Fm := fun ds gl => if ds.length = n then (match body ⟨ds.map Slot.val ++ List.replicate (N - n) Slot.none, gl⟩ with
  | .ok (.rt d) s => .ok d s.gl
  | .ok .nx s => .ok .non s.gl
  | .ok _ _ => .stuck
  | .exc c p s => .exc c p s.gl
  | .stuck => .stuck) else .stuck
def mCall (f : Fm) (m : S → Res (List D)) : M := fun s => (m s).bind fun ds s1 => match f ds s1.gl with
  | .ok d gl => .ok (.d d) { s1 with gl := gl }
  | .exc c p gl => .exc c p { s1 with gl := gl }
  | .stuck => .stuck

section
variable {K : PySem.W.Frag} {W : WX} {σ : L2.St} {g : G} {s : S} {H : Hp}
/-- the ghost for a callee: all that is not the store's or unchanging is protected -/
def G.callee (g : G) (gl : List MObj) (H : Hp) : G := { g with P := fun a => (∃ u, H a = some u) ∧ g.F a = none ∧ ¬ ∃ n, n < gl.length ∧ g.adr (.gl n) = a }
theorem callee_le (g : G) (gl : List MObj) (H : Hp) : GLe g (g.callee gl H) := ⟨Sub.refl _, Nat.le_refl _, fun _ _ => rfl⟩
/-- the ghost behind it -/
def G.back (g g' : G) : G := { g' with P := g.P, adr := fun l => match l with
  | .sl i => g.adr (.sl i)
  | .gl n => g'.adr (.gl n) }
theorem cell_sl0 {s : S} {i : Nat} {o : MObj} (e : s.env[i]? = some (.own o)) : cellOf s (.sl i) = some o := by
  show (match s.env[i]? with | some (.own o) => some o | _ => none) = _
  rw [e]
theorem gl_cell {s : S} {n : Nat} {o : MObj} (e : cellOf s (.gl n) = some o) : n < s.gl.length := (List.getElem?_eq_some_iff.mp e).1
theorem live_gl {g : G} {gl : List MObj} {a : Addr} (l : Live g ⟨[], gl⟩ a) : ∃ n, n < gl.length ∧ g.adr (.gl n) = a := by
  obtain ⟨l, o, e, z⟩ := l
  cases l with
  | sl i => exact nomatch (show (none : Option MObj) = some o from e)
  | gl n => exact ⟨n, gl_cell (s := ⟨[], gl⟩) e, z⟩
theorem Ok.callee (ok : Ok K g s σ H) : Ok K (g.callee s.gl H) ⟨[], s.gl⟩ [] H where
  sub := ok.sub
  cell := fun l o e => by
    cases l with
    | sl i => exact nomatch (show (none : Option MObj) = some o from e)
    | gl n =>
      obtain ⟨f, r⟩ := ok.cell (.gl n) o e
      exact ⟨f, r.mono (callee_le g s.gl H) rfl⟩
  inj := fun l l' o o' e e' z => by
    cases l with
    | sl i => exact nomatch (show (none : Option MObj) = some o from e)
    | gl n =>
      cases l' with
      | sl i => exact nomatch (show (none : Option MObj) = some o' from e')
      | gl n' => exact ok.inj (.gl n) (.gl n') o o' e e' z
  env := fun i x e => nomatch e
  len := rfl
  ng := ok.ng
  prot := fun a ⟨h1, h2, h3⟩ => ⟨h1, h2, fun l => h3 (live_gl l)⟩
theorem back_le {g' : G} {H' : Hp} {gl : List MObj} (t : Step (g.callee gl H) H g' H') : GLe g (g.back g') := ⟨t.le.F, t.le.ng, t.le.adr⟩
theorem back_ge {g' : G} : GLe g' (g.back g') := ⟨Sub.refl _, Nat.le_refl _, fun _ _ => rfl⟩
theorem prot_callee {a : Addr} (ok : Ok K g s σ H) (p : g.P a) : (g.callee s.gl H).P a := by
  obtain ⟨h1, h2, h3⟩ := ok.prot a p
  refine ⟨h1, h2, fun ⟨n, hn, z⟩ => h3 ⟨.gl n, s.gl[n], ?_, z⟩⟩
  show s.gl[n]? = _
  simp [hn]
theorem Ok.back {g' : G} {H' : Hp} {gl' : List MObj} (ok : Ok K g s σ H) (t : Step (g.callee s.gl H) H g' H') (ok' : Ok K g' ⟨[], gl'⟩ [] H') :
    Step g H (g.back g') H' ∧ SlKeep g (g.back g') ∧ Ok K (g.back g') { s with gl := gl' } σ H' := by
  have P' : g'.P = (g.callee s.gl H).P := t.P
  have own : ∀ i o, s.env[i]? = some (.own o) → (g.callee s.gl H).P (g.adr (.sl i)) := by
    intro i o e
    have ce := cell_sl0 e
    obtain ⟨f, r⟩ := ok.cell _ _ ce
    refine ⟨r.some, f, fun ⟨n, hn, z⟩ => ?_⟩
    have cg : cellOf s (.gl n) = some s.gl[n] := by show s.gl[n]? = _; simp [hn]
    exact nomatch ok.inj _ _ _ _ cg ce z
  have slc : ∀ i o, cellOf { s with gl := gl' } (.sl i) = some o → s.env[i]? = some (.own o) := by
    intro i o e
    have e' : (match s.env[i]? with | some (.own o) => some o | _ => none) = some o := e
    split at e'
    · rename_i o' h
      cases e'
      exact h
    · cases e'
  have glc : ∀ n o, cellOf { s with gl := gl' } (.gl n) = some o → cellOf (⟨[], gl'⟩ : S) (.gl n) = some o := fun n o e => e
  refine ⟨⟨back_le t, rfl, fun a p => t.keep a (prot_callee ok p)⟩, fun _ => rfl, ?_⟩
  refine ⟨ok'.sub, fun l o e => ?_, fun l l' o o' e e' z => ?_, fun i x e => (ok.env i x e).mono (back_le t) (fun _ => rfl), ok.len, ok'.ng, fun a p => ?_⟩
  · cases l with
    | sl i =>
      have e1 := slc i o e
      have p := own i o e1
      obtain ⟨_, r⟩ := ok.cell _ _ (cell_sl0 e1)
      exact ⟨(ok'.prot _ (by rw [P']; exact p)).2.1, r.mono (back_le t) (t.keep _ p)⟩
    | gl n =>
      obtain ⟨f, r⟩ := ok'.cell (.gl n) o (glc n o e)
      exact ⟨f, r.mono back_ge rfl⟩
  · cases l with
    | sl i =>
      have e1 := slc i o e
      cases l' with
      | sl j => exact ok.inj _ _ _ _ (cell_sl0 e1) (cell_sl0 (slc j o' e')) z
      | gl n => exact absurd ⟨.gl n, o', glc n o' e', z.symm⟩ (ok'.prot _ (by rw [P']; exact own i o e1)).2.2
    | gl n =>
      cases l' with
      | sl j => exact absurd ⟨.gl n, o, glc n o e, z⟩ (ok'.prot _ (by rw [P']; exact own j o' (slc j o' e'))).2.2
      | gl n' => exact ok'.inj (.gl n) (.gl n') o o' (glc n o e) (glc n' o' e') z
  · have q := prot_callee ok p
    obtain ⟨h1, h2, h3⟩ := ok'.prot a (by rw [P']; exact q)
    refine ⟨h1, h2, fun ⟨l, o, e, z⟩ => ?_⟩
    cases l with
    | sl i => exact (ok.prot a p).2.2 ⟨.sl i, o, cell_sl0 (slc i o e), z⟩
    | gl n => exact h3 ⟨.gl n, o, glc n o e, z⟩
/-- a call at the level of what is wanted -/
theorem sp_call {f : Fm} {vs : List V} {ds : List D} {Q : VK} {E : XK} (ok : Ok K g s σ H) (r : RepL K g vs ds)
    (h : PostE K W σ g s H (kE K Q) (match f ds s.gl with
      | .ok d gl => .ok (.d d) { s with gl := gl }
      | .exc c p gl => .exc c p { s with gl := gl }
      | .stuck => .stuck)) (hE : ∀ cls d H, W cls d σ H → E cls d H) : spM K f vs H Q E := by
  refine ⟨g.callee s.gl H, s.gl, ds, ok.callee, r.mono (callee_le g s.gl H), ?_⟩
  cases e : f ds s.gl with
  | ok d gl' =>
    rw [e] at h
    intro v g' H' t o' rv
    obtain ⟨t2, k2, o2⟩ := ok.back t o'
    exact h _ _ t2 k2 o2 v (show Rep K (g.back g') v d from rv.mono back_ge)
  | exc c p gl' =>
    rw [e] at h
    intro cls dd g' H' t o' rv
    obtain ⟨t2, k2, o2⟩ := ok.back t o'
    exact hE _ _ _ (h cls dd _ _ t2 k2 o2 (rv.mono back_ge))
  | stuck => rw [e] at h; exact h
end
section
variable {X : Cx} {W : WX} {e : Expr} {es : List Expr} {me : M} {m : S → Res (List D)} {pos p : Pos} {k : Nat} {f : Addr} {fd : FuncData} {ps : List Str} {fm : Fm} {x : Str}
theorem me_call (F : FnOk X.prog X.w X.K X.mg X.base (L2.CX X.prog X.w) k f fd ps (spM X.K fm)) (hr : Room k X.A) (hg : Gl X x) (hm : X.mg x = some (.ref f)) (hk : PySem.W.keepIn X.K (.ref f) = true) (hb : Binds X.K fd ps []) (tk : Takes X W)
    (ha : MA X W (e :: es) m) (hdb : (x == ("__debug__" : Str)) = false := by decide) (he : starEach (e :: es) X.env = (false, eval e X.env) :: starEach es X.env := by rfl) (hpl : (backTo pos (starEach es X.env)).any (·.1) = false := by rfl) :
    ME X W (.Call (.Name x p) (e :: es) [] pos) (mCall fm m) := by
  refine pe_imp (pe_callS F hr hg hm hk hb (fun σ => passAt tk σ) ha hdb he hpl) fun σ H Q ⟨g, s, ok, h⟩ => ?_
  refine ⟨g, s, ok, (PostE.bind h).mono fun ds g1 s1 H1 t1 k1 o1 h1 vs rs => ?_⟩
  exact sp_call o1 rs h1 fun _ _ _ h => h
end

/-! ### a def keeps its mirror's promise -/
theorem Ok.drop {K : PySem.W.Frag} {σ : L2.St} {g : G} {s : S} {H : Hp} (ok : Ok K g s σ H) : Ok K g ⟨[], s.gl⟩ [] H where
  sub := ok.sub
  cell := fun l o e => by
    cases l with
    | sl i => exact nomatch (show (none : Option MObj) = some o from e)
    | gl n => exact ok.cell (.gl n) o e
  inj := fun l l' o o' e e' z => by
    cases l with
    | sl i => exact nomatch (show (none : Option MObj) = some o from e)
    | gl n =>
      cases l' with
      | sl i => exact nomatch (show (none : Option MObj) = some o' from e')
      | gl n' => exact ok.inj (.gl n) (.gl n') o o' e e' z
  env := fun i x e => nomatch e
  len := rfl
  ng := ok.ng
  prot := fun a p => by
    obtain ⟨h1, h2, h3⟩ := ok.prot a p
    refine ⟨h1, h2, fun ⟨l, o, e, z⟩ => ?_⟩
    cases l with
    | sl i => exact nomatch (show (none : Option MObj) = some o from e)
    | gl n => exact h3 ⟨.gl n, o, e, z⟩
theorem env_start {K : PySem.W.Frag} {g : G} {vs : List V} {ds : List D} {N : List Str} (r : RepL K g vs ds) {i : Nat} {x : Slot} (e : (ds.map Slot.val ++ List.replicate (N.length - ds.length) Slot.none)[i]? = some x) : SlotRep K g (L2.start N vs) i x := by
  have hl := r.length
  by_cases h : i < ds.length
  · rw [List.getElem?_append_left (by simpa using h), List.getElem?_map] at e
    obtain ⟨d, hd⟩ : ∃ d, ds[i]? = some d := ⟨_, List.getElem?_eq_getElem h⟩
    rw [hd] at e
    cases e
    obtain ⟨v, hv, rv⟩ := r.get hd
    refine ⟨v, ?_, rv⟩
    unfold L2.start
    rw [List.getElem?_append_left (by simpa [hl] using h), List.getElem?_map, hv]
    rfl
  · rw [List.getElem?_append_right (by simpa using h)] at e
    have := (List.mem_replicate.mp (List.mem_of_getElem? e)).2
    subst this
    trivial
theorem Ok.enter {K : PySem.W.Frag} {g : G} {gl : List MObj} {H : Hp} {vs : List V} {ds : List D} {N : List Str} (ok : Ok K g ⟨[], gl⟩ [] H) (r : RepL K g vs ds) (hN : ds.length ≤ N.length) :
    Ok K g ⟨ds.map Slot.val ++ List.replicate (N.length - ds.length) Slot.none, gl⟩ (L2.start N vs) H := by
  have slc : ∀ i o, cellOf ⟨ds.map Slot.val ++ List.replicate (N.length - ds.length) Slot.none, gl⟩ (.sl i) = some o → False := by
    intro i o e
    have e' : (match (ds.map Slot.val ++ List.replicate (N.length - ds.length) Slot.none)[i]? with | some (.own o) => some o | _ => none) = some o := e
    split at e'
    · rename_i o' h
      rcases List.mem_append.mp (List.mem_of_getElem? h) with z | z
      · obtain ⟨d, _, z⟩ := List.mem_map.mp z
        cases z
      · cases (List.mem_replicate.mp z).2
    · cases e'
  refine ⟨ok.sub, fun l o e => ?_, fun l l' o o' e e' z => ?_, fun i x e => env_start r e, ?_, ok.ng, fun a p => ?_⟩
  · cases l with
    | sl i => exact (slc i o e).elim
    | gl n => exact ok.cell (.gl n) o e
  · cases l with
    | sl i => exact (slc i o e).elim
    | gl n =>
      cases l' with
      | sl i => exact (slc i o' e').elim
      | gl n' => exact ok.inj (.gl n) (.gl n') o o' e e' z
  · have hl := r.length
    unfold L2.start
    simp [hl]
  · obtain ⟨h1, h2, h3⟩ := ok.prot a p
    refine ⟨h1, h2, fun ⟨l, o, e, z⟩ => ?_⟩
    cases l with
    | sl i => exact (slc i o e).elim
    | gl n => exact h3 ⟨.gl n, o, e, z⟩
theorem fn_mirror {P : Program} {w : World} {K : PySem.W.Frag} {mg : Str → Option Value} {base : Heap} {x qual : Str} {params : Arguments} {body : List Stmt} {scope : Scope} {dvs : List V} {kws : List (Str × V)} {f : Addr} {fd : FuncData} {N ps : List Str} {k : Nat} {m : S → Res Out}
    (F : FunD K x qual params body scope dvs kws f fd) (Sc : FnScope N ps scope) (hN : ps.length ≤ N.length)
    (hbody : ∀ (cdv : Value) (A : Around) (outer : List Env) (s : Shared) (H : Hp) (E : XK), Room k (A.deeper (envOfC qual scope s.heap.objs.size f cdv)) →
      MSs (cxOf (L2.CX P w) P w K mg base N qual scope f cdv A outer s H E) (fun cls d _ H => E cls d H) body m) :
    FnOk P w K mg base (L2.CX P w) (k + 1) f fd ps (spM K (mDef ps.length N.length m)) := by
  refine F.ok Sc (fun vs H Q E h => ?_) (fun cdv A outer s H vs Q E hr h => ⟨_, hbody cdv A outer s H E hr, ?_⟩)
  · obtain ⟨g, gl, ds, ok, r, h⟩ := h
    unfold mDef at h
    by_cases z : ds.length = ps.length
    · exact r.length.trans z
    · rw [if_neg z] at h; exact h.elim
  · obtain ⟨g, gl, ds, ok, r, h⟩ := h
    unfold mDef at h
    by_cases z : ds.length = ps.length
    · rw [if_pos z] at h
      have o1 := ok.enter (N := N) r (by rw [z]; exact hN)
      refine ⟨g, _, o1, ?_⟩
      rw [z]
      cases e : m ⟨ds.map Slot.val ++ List.replicate (N.length - ps.length) Slot.none, gl⟩ with
      | ok a s' =>
        rw [e] at h
        cases a with
        | nx => exact fun σ' g' H' t o' => h _ _ _ t o'.drop .non
        | rt d => exact fun v σ' g' H' t o' rv => h _ _ _ t o'.drop rv
        | bk => exact h.elim
        | ct => exact h.elim
      | exc c p s' => rw [e] at h; exact fun σ' cls d g' H' t o' rv => h _ _ _ _ t o'.drop rv
      | stuck => rw [e] at h; exact h
    · rw [if_neg z] at h; exact h.elim
end MI
/-! # Statements -/
namespace MI
open PySem L2

section
variable {K : PySem.W.Frag} {W : WX} {σ : St} {g : G} {s : S} {H : Hp} {D : Ends}
theorem PostS.nx (h : PostS K W g s H D (.ok .nx s)) (o : Ok K g s σ H) : D.nx σ H := h σ g H (Step.refl _ _) o
end
/-! ### stores to names -/
def G.put (g : G) (i : Nat) (a : Addr) : G := { g with adr := fun l => if l = .sl i then a else g.adr l }
def assign (i : Nat) : RV → S → Option S
  | .d x, s => if i < s.env.length then some { s with env := s.env.set i (.val x) } else none
  | .new o, s => if i < s.env.length then some { s with env := s.env.set i (.own o) } else none
  | .at j, s => match leak (.at j) s with
    | some (x, s1) => if i < s1.env.length then some { s1 with env := s1.env.set i (.val x) } else none
    | none => none
section
variable {K : PySem.W.Frag} {W : WX} {σ : St} {g : G} {s : S} {H : Hp}
theorem cellOf_set {i : Nat} {x : Slot} (hi : i < s.env.length) {l : Loc} {o : MObj} (h : cellOf { s with env := s.env.set i x } l = some o) :
    (l = .sl i ∧ x = .own o) ∨ (l ≠ .sl i ∧ cellOf s l = some o) := by
  cases l with
  | gl n => exact .inr ⟨(fun z => nomatch z), h⟩
  | sl j =>
    have h' : (match (s.env.set i x)[j]? with | some (.own o) => some o | _ => none) = some o := h
    by_cases z : j = i
    · subst z
      rw [List.getElem?_set_self hi] at h'
      refine .inl ⟨rfl, ?_⟩
      cases x with
      | own w => cases h'; rfl
      | _ => cases h'
    · rw [List.getElem?_set_ne (Ne.symm z)] at h'
      exact .inr ⟨fun q => z (by cases q; rfl), h'⟩
theorem Ok.setVal {i : Nat} {v : V} {x : D} (ok : Ok K g s σ H) (r : Rep K g v x) (hi : i < s.env.length) : Ok K g { s with env := s.env.set i (.val x) } (σ.set i (some v)) H := by
  have sub : ∀ {l o}, cellOf { s with env := s.env.set i (.val x) } l = some o → cellOf s l = some o := fun h => by
    rcases cellOf_set hi h with ⟨_, z⟩ | ⟨_, z⟩
    · cases z
    · exact z
  refine ⟨ok.sub, fun l o e => ok.cell l o (sub e), fun l l' o o' e e' z => ok.inj l l' o o' (sub e) (sub e') z, fun j y e => ?_, by simpa using ok.len, ok.ng, fun a p => ?_⟩
  · have hi' : i < σ.length := by rw [← ok.len]; exact hi
    by_cases z : j = i
    · subst z
      have e' : (s.env.set j (.val x))[j]? = some y := e
      rw [List.getElem?_set_self hi] at e'
      cases e'
      exact ⟨v, List.getElem?_set_self hi', r⟩
    · have e' : (s.env.set i (.val x))[j]? = some y := e
      rw [List.getElem?_set_ne (Ne.symm z)] at e'
      have := ok.env j y e'
      cases y with
      | none => trivial
      | val d => obtain ⟨w, q, r⟩ := this; exact ⟨w, by rw [List.getElem?_set_ne (Ne.symm z)]; exact q, r⟩
      | own o => show (σ.set i (some v))[j]? = _; rw [List.getElem?_set_ne (Ne.symm z)]; exact this
  · obtain ⟨h1, h2, h3⟩ := ok.prot a p
    exact ⟨h1, h2, fun ⟨l, o, e, z⟩ => h3 ⟨l, o, sub e, z⟩⟩
theorem put_le {i : Nat} {a : Addr} : GLe g (g.put i a) := by
  refine ⟨Sub.refl _, Nat.le_refl _, fun n _ => ?_⟩
  show (if Loc.gl n = Loc.sl i then a else g.adr (.gl n)) = _
  rw [if_neg (by intro z; cases z)]
theorem put_step {i : Nat} {a : Addr} : Step g H (g.put i a) H := ⟨put_le, rfl, fun _ _ => rfl⟩
theorem put_same {i : Nat} {a : Addr} : (g.put i a).adr (.sl i) = a := if_pos rfl
theorem put_ne {i : Nat} {a : Addr} {l : Loc} (h : l ≠ .sl i) : (g.put i a).adr l = g.adr l := if_neg h
theorem Ok.setOwn {i : Nat} {a : Addr} {o : MObj} (ok : Ok K g s σ H) (hi : i < s.env.length) (n : g.F a = none) (np : ¬ g.P a) (nl : ¬ Live g s a) (q : ObjRep K g H a o) :
    Ok K (g.put i a) { s with env := s.env.set i (.own o) } (σ.set i (some (.ref a))) H := by
  have cs : ∀ {l w}, cellOf { s with env := s.env.set i (.own o) } l = some w → (l = .sl i ∧ w = o) ∨ (l ≠ .sl i ∧ cellOf s l = some w) := by
    intro l w h
    rcases cellOf_set hi h with ⟨e1, z⟩ | z
    · cases z; exact .inl ⟨e1, rfl⟩
    · exact .inr z
  refine ⟨ok.sub, fun l w e => ?_, fun l l' w w' e e' z => ?_, fun j y e => ?_, by simpa using ok.len, ok.ng, fun b p => ?_⟩
  · rcases cs e with ⟨rfl, rfl⟩ | ⟨hl, e⟩
    · rw [put_same]; exact ⟨n, q.mono put_le rfl⟩
    · rw [put_ne hl]
      obtain ⟨f, r⟩ := ok.cell l w e
      exact ⟨f, r.mono put_le rfl⟩
  · rcases cs e with ⟨e1, _⟩ | ⟨hl, e1⟩
    · rcases cs e' with ⟨e2, _⟩ | ⟨hl', e2⟩
      · rw [e1, e2]
      · rw [e1, put_same, put_ne hl'] at z
        exact absurd ⟨l', w', e2, z.symm⟩ nl
    · rcases cs e' with ⟨e2, _⟩ | ⟨hl', e2⟩
      · rw [e2, put_same, put_ne hl] at z
        exact absurd ⟨l, w, e1, z⟩ nl
      · rw [put_ne hl, put_ne hl'] at z
        exact ok.inj l l' w w' e1 e2 z
  · have hi' : i < σ.length := by rw [← ok.len]; exact hi
    by_cases z : j = i
    · subst z
      have e' : (s.env.set j (.own o))[j]? = some y := e
      rw [List.getElem?_set_self hi] at e'
      cases e'
      show (σ.set j (some (.ref a)))[j]? = _
      rw [put_same, List.getElem?_set_self hi']
    · have e' : (s.env.set i (.own o))[j]? = some y := e
      rw [List.getElem?_set_ne (Ne.symm z)] at e'
      have := ok.env j y e'
      cases y with
      | none => trivial
      | val d => obtain ⟨w, q, r⟩ := this; exact ⟨w, by rw [List.getElem?_set_ne (Ne.symm z)]; exact q, r.mono put_le⟩
      | own w =>
        show (σ.set i (some (.ref a)))[j]? = _
        rw [List.getElem?_set_ne (Ne.symm z), put_ne (fun q => z (by cases q; rfl))]; exact this
  · obtain ⟨h1, h2, h3⟩ := ok.prot b p
    refine ⟨h1, h2, fun ⟨l, w, e, z⟩ => ?_⟩
    rcases cs e with ⟨rfl, rfl⟩ | ⟨hl, e⟩
    · rw [put_same] at z
      exact np (z ▸ p)
    · rw [put_ne hl] at z
      exact h3 ⟨l, w, e, z⟩
theorem assign_ok {i : Nat} {v : V} {r : RV} {s' : S} (ok : Ok K g s σ H) (h : RepRV K g s H v r) (e : assign i r s = some s') :
    ∃ g', Step g H g' H ∧ Ok K g' s' (σ.set i (some v)) H := by
  cases r with
  | d x =>
    simp only [assign] at e
    split at e
    · rename_i hi
      cases e
      exact ⟨g, Step.refl _ _, ok.setVal h hi⟩
    · cases e
  | new o =>
    obtain ⟨a, rfl, n, np, nl, q⟩ := h
    simp only [assign] at e
    split at e
    · rename_i hi
      cases e
      exact ⟨_, put_step, ok.setOwn hi n np nl q⟩
    · cases e
  | «at» j =>
    simp only [assign] at e
    split at e
    · rename_i x s1 e1
      split at e
      · rename_i hi
        cases e
        obtain ⟨g1, t1, k1, o1, r1⟩ := leak_ok ok h e1
        exact ⟨g1, t1, o1.setVal r1 hi⟩
      · cases e
    · cases e
end

/-! ### small statements -/
def mNx : S → Res Out := fun s => .ok .nx s
def mSeq (a b : S → Res Out) : S → Res Out := fun s => match a s with
  | .ok .nx s1 => b s1
  | r => r
def mExpr (m : M) : S → Res Out := fun s => (m s).bind fun _ s1 => .ok .nx s1
def mRet (m : M) : S → Res Out := fun s => (mLeak m s).bind fun d s1 => .ok (.rt d) s1
def mRetN : S → Res Out := fun s => .ok (.rt .non) s
def mIfS (t : S → Res Bool) (a b : S → Res Out) : S → Res Out := fun s => (t s).bind fun c s1 => if c = true then a s1 else b s1
def mSet (i : Nat) (m : M) : S → Res Out := fun s => (m s).bind fun r s1 => match assign i r s1 with
  | some s2 => .ok .nx s2
  | none => .stuck
def mBrk : S → Res Out := fun s => .ok .bk s
def mCont : S → Res Out := fun s => .ok .ct s
section
variable {X : Cx} {W : WX} {e c : Expr} {me : M} {t : S → Res Bool} {st : Stmt} {a b rest : List Stmt} {ma mb : S → Res Out} {pos : Pos}
theorem mss_nil : MSs X W [] mNx := pss_imp pss_nil fun D σ H ⟨g, s, ok, h⟩ => PostS.nx h ok
theorem mss_cons (h1 : MS X W st ma) (h2 : MSs X W rest mb) : MSs X W (st :: rest) (mSeq ma mb) := by
  refine pss_imp (pss_cons h1 h2) fun D σ H ⟨g, s, ok, h⟩ => ⟨g, s, ok, ?_⟩
  unfold mSeq at h
  cases e : ma s with
  | ok o s1 =>
    simp only [e] at h
    cases o with
    | nx => exact fun σ' g' H' t o' => ⟨g', s1, o', PostS.after h t⟩
    | rt d => exact h
    | bk => exact h
    | ct => exact h
  | exc c p s1 => simp only [e] at h; exact h
  | stuck => simp only [e] at h; exact h
theorem mss_one (h1 : MS X W st ma) : MSs X W [st] ma := pss_one h1
theorem ms_pass : MS X W (.Pass pos) mNx := ps_imp ps_pass fun D σ H ⟨g, s, ok, h⟩ => PostS.nx h ok
theorem ms_break : MS X W (.Break pos) mBrk := ps_imp ps_break fun D σ H ⟨g, s, ok, h⟩ => h σ g H (Step.refl _ _) ok
theorem ms_continue : MS X W (.Continue pos) mCont := ps_imp ps_continue fun D σ H ⟨g, s, ok, h⟩ => h σ g H (Step.refl _ _) ok
theorem ms_doc {x j p p'} : MS X W (.Expr (.Constant (.str x) j p) p') mNx := ps_imp ps_doc fun D σ H ⟨g, s, ok, h⟩ => PostS.nx h ok
theorem ms_expr (he : ME X W e me) (hs : swapsWith e none pos.line X.env = pure false := by rfl) : MS X W (.Expr e pos) (mExpr me) := by
  refine ps_imp (ps_expr he hs) fun D σ H ⟨g, s, ok, h⟩ => ?_
  exact ⟨g, s, ok, (PostS.bind h).mono fun r g1 s1 H1 t1 k1 o1 h1 v rv => PostS.nx h1 o1⟩
theorem ms_ret (he : ME X W e me) : MS X W (.Return (some e) pos) (mRet me) := by
  refine ps_imp (ps_ret he) fun D σ H ⟨g, s, ok, h⟩ => ?_
  exact tM_leak ok (PostS.bind h) fun d g1 s1 H1 v t1 k1 o1 rv h1 => h1 v σ g1 H1 (Step.refl _ _) o1 rv
theorem ms_retN : MS X W (.Return none pos) mRetN := ps_imp ps_retN fun D σ H ⟨g, s, ok, h⟩ => h .non σ g H (Step.refl _ _) ok .non
theorem ms_if (hc : MT X W c t) (ha : MSs X W a ma) (hb : MSs X W b mb) : MS X W (.If c a b pos) (mIfS t ma mb) := by
  refine ps_imp (ps_if hc ha hb) fun D σ H ⟨g, s, ok, h⟩ => ?_
  refine ⟨g, s, ok, (PostS.bind h).mono fun c g1 s1 H1 t1 k1 o1 h1 => ?_⟩
  cases c with
  | true => rw [if_pos rfl] at h1; show (if true = true then _ else _); rw [if_pos rfl]; exact ⟨g1, s1, o1, h1⟩
  | false => rw [if_neg (by decide)] at h1; show (if false = true then _ else _); rw [if_neg (by decide)]; exact ⟨g1, s1, o1, h1⟩
theorem ms_set {i : Nat} {x : Str} {pos' : Pos} (he : ME X W e me) (hN : X.N.Nodup) (hi : X.N[i]? = some x := by rfl) (hx : L2.Loc X.env.scope x := by first | exact Or.inl rfl | exact Or.inr rfl)
    (hs : swapsWith e (some (.Name x pos')) pos.line X.env = pure false := by rfl) (hf : X.fn x = true ∨ X.env.scope.names.lookup x = some .local := by first | exact .inl rfl | exact .inr rfl) :
    MS X W (.Assign [.Name x pos'] e pos) (mSet i me) := by
  refine ps_imp (ps_set hN hi hx he hs hf) fun D σ H ⟨g, s, ok, h⟩ => ?_
  refine ⟨g, s, ok, (PostS.bind h).mono fun r g1 s1 H1 t1 k1 o1 h1 v rv => ?_⟩
  show D.nx (σ.set i (some v)) H1
  split at h1
  · rename_i s2 e2
    obtain ⟨g2, t2, o2⟩ := assign_ok o1 rv e2
    exact h1 _ g2 H1 t2 o2
  · exact h1.elim
end
end MI
/-! # Several values at once, stored to names -/
namespace MI
open PySem L2

inductive RepRVs (K : PySem.W.Frag) (g : G) (s : S) (H : Hp) : List V → List RV → List Addr → Prop
  | nil : RepRVs K g s H [] [] []
  | d {v : V} {x : D} {vs : List V} {rs : List RV} {L : List Addr} : Rep K g v x → RepRVs K g s H vs rs L → RepRVs K g s H (v :: vs) (.d x :: rs) L
  | new {a : Addr} {o : MObj} {vs : List V} {rs : List RV} {L : List Addr} : g.F a = none → ¬ g.P a → ¬ Live g s a → ObjRep K g H a o → a ∉ L → RepRVs K g s H vs rs L → RepRVs K g s H (.ref a :: vs) (.new o :: rs) (a :: L)
abbrev kR (K : PySem.W.Frag) (Q : List V → Hp → Prop) : List RV → G → S → Hp → Prop := fun r g s H => ∀ v L, RepRVs K g s H v r L → Q v H
def tMR (K : PySem.W.Frag) (W : WX) (m : S → Res (List RV)) : TA := fun σ H Q => ∃ g s, Ok K g s σ H ∧ PostE K W σ g s H (kR K Q) (m s)
def MR (X : Cx) (W : WX) (es : List Expr) (m : S → Res (List RV)) : Prop := PA X es (tMR X.K W m)
def mHold (a : M) : M := fun s => (a s).bind fun r s1 => match r with
  | .at i => match leak (.at i) s1 with
    | some (d, s2) => .ok (.d d) s2
    | none => .stuck
  | r => .ok r s1
def mRNil : S → Res (List RV) := fun s => .ok [] s
def mRCons (a : M) (r : S → Res (List RV)) : S → Res (List RV) := fun s => (mHold a s).bind fun x s1 => (r s1).bind fun xs s2 => .ok (x :: xs) s2
def G.hold (g : G) (a : Addr) : G := { g with P := fun b => g.P b ∨ b = a }
def G.wP (g : G) (P : Addr → Prop) : G := { g with P := P }
section
variable {K : PySem.W.Frag} {W : WX} {σ : St} {g : G} {s : S} {H : Hp}
theorem wP_le {P : Addr → Prop} : GLe g (g.wP P) := ⟨Sub.refl _, Nat.le_refl _, fun _ _ => rfl⟩
theorem wP_ge {P : Addr → Prop} : GLe (g.wP P) g := ⟨Sub.refl _, Nat.le_refl _, fun _ _ => rfl⟩
theorem Ok.wP {P : Addr → Prop} (ok : Ok K g s σ H) (h : ∀ a, P a → (∃ u, H a = some u) ∧ g.F a = none ∧ ¬ Live g s a) : Ok K (g.wP P) s σ H :=
  ⟨ok.sub, fun l o e => ⟨(ok.cell l o e).1, (ok.cell l o e).2.mono wP_le rfl⟩, ok.inj, fun i x e => (ok.env i x e).mono wP_le (SlKeep.refl _), ok.len, ok.ng, h⟩
theorem Ok.hold {a : Addr} {u : HO} (ok : Ok K g s σ H) (h : H a = some u) (n : g.F a = none) (nl : ¬ Live g s a) : Ok K (g.hold a) s σ H :=
  ok.wP (P := fun b => g.P b ∨ b = a) fun b p => by
    rcases p with p | rfl
    · exact ok.prot b p
    · exact ⟨⟨u, h⟩, n, nl⟩
theorem Ok.unhold {a : Addr} {g0 : G} (ok : Ok K g s σ H) (e : g.P = (g0.hold a).P) : Ok K (g.wP g0.P) s σ H :=
  ok.wP fun b p => ok.prot b (by rw [e]; exact .inl p)
theorem Step.unhold {a : Addr} {g' : G} {H' : Hp} (t : Step (g.hold a) H g' H') : Step g H (g'.wP g.P) H' :=
  ⟨⟨t.le.F, t.le.ng, t.le.adr⟩, rfl, fun b p => t.keep b (.inl p)⟩
theorem ObjRep.wP {P : Addr → Prop} {a : Addr} {o : MObj} (q : ObjRep K g H a o) : ObjRep K (g.wP P) H a o := q.mono wP_le rfl
theorem RepRVs.unhold {a : Addr} {vs : List V} {rs : List RV} {L : List Addr} {g0 : G} (e : g.P = (g0.hold a).P) (r : RepRVs K g s H vs rs L) : RepRVs K (g.wP g0.P) s H vs rs L ∧ a ∉ L := by
  induction r with
  | nil => exact ⟨.nil, by simp⟩
  | d x _ ih => exact ⟨.d (Rep.mono wP_le x) ih.1, ih.2⟩
  | @new b _ _ _ _ n np nl q m _ ih =>
    refine ⟨.new n (fun p => np (by rw [e]; exact .inl p)) nl q.wP m ih.1, fun z => ?_⟩
    rcases List.mem_cons.mp z with z | z
    · exact np (by rw [e]; exact .inr z.symm)
    · exact ih.2 z
theorem PostE.hold {α : Type} {k : α → G → S → Hp → Prop} {a : Addr} {r : Res α} (h : PostE K W σ g s H k r) :
    PostE K W σ (g.hold a) s H (fun b g' s' H' => k b (g'.wP g.P) s' H' ∧ H' a = H a ∧ g'.F a = none ∧ ¬ Live g' s' a ∧ g'.P = (g.hold a).P ∧ Step g H (g'.wP g.P) H' ∧ SlKeep g (g'.wP g.P)) r := by
  cases r with
  | ok b s' =>
    intro g' H' t sk o
    have pa : g'.P a := by rw [t.P]; exact .inr rfl
    obtain ⟨_, f, l⟩ := o.prot a pa
    exact ⟨h _ H' t.unhold sk (o.unhold t.P), t.keep a (.inr rfl), f, l, t.P, t.unhold, sk⟩
  | exc c p s' =>
    intro cls d g' H' t sk o rv
    exact h cls d _ H' t.unhold sk (o.unhold t.P) (rv.mono wP_le)
  | stuck => exact h
end
section
variable {X : Cx} {W : WX} {e : Expr} {es : List Expr} {me : M} {m : S → Res (List RV)} {pos : Pos}
theorem mr_nil : MR X W [] mRNil := pa_imp pa_nil fun σ H Q ⟨g, s, ok, h⟩ => PostE.done h ok _ _ .nil
theorem mr_cons (ha : ME X W e me) (hr : MR X W es m) (hs : starEach (e :: es) X.env = (false, eval e X.env) :: starEach es X.env := by rfl) : MR X W (e :: es) (mRCons me m) := by
  refine pa_imp (pa_cons ha hr hs) fun σ H Q ⟨g, s, ok, h⟩ => ?_
  refine ⟨g, s, ok, (PostE.bind (PostE.bind h)).mono fun r g1 s1 H1 t1 k1 o1 h1 v rv => ?_⟩
  have dcase : ∀ {x : D} {g2 : G} {s2 : S}, Step g1 H1 g2 H1 → SlKeep g1 g2 → Ok X.K g2 s2 σ H1 → Rep X.K g2 v x →
      PostE X.K W σ g2 s2 H1 (kR X.K Q) ((m s2).bind fun xs s3 => .ok (.d x :: xs) s3) → tMR X.K W m σ H1 (fun xs H2 => Q (v :: xs) H2) := by
    intro x g2 s2 t2 k2 o2 rx h2
    refine ⟨g2, s2, o2, (PostE.bind h2).mono fun xs g3 s3 H3 t3 k3 o3 h3 vs L rs => ?_⟩
    exact PostE.done h3 o3 _ _ (.d (rx.mono t3.le) rs)
  cases r with
  | d x => exact dcase (Step.refl _ _) (SlKeep.refl _) o1 rv (PostE.done h1 o1)
  | «at» i =>
    cases e1 : leak (.at i) s1 with
    | none => simp only [e1] at h1; exact h1.elim
    | some p =>
      obtain ⟨x, s2⟩ := p
      simp only [e1] at h1
      obtain ⟨g2, t2, k2, o2, r2⟩ := leak_ok o1 rv e1
      exact dcase t2 k2 o2 r2 (h1 g2 H1 t2 k2 o2)
  | new o =>
    obtain ⟨a, rfl, n, np, nl, q⟩ := rv
    obtain ⟨u, hu⟩ := q.some
    have h2 := PostE.done h1 o1
    refine ⟨g1.hold a, s1, o1.hold hu n nl, ((PostE.bind h2).hold (a := a)).mono fun xs g3 s3 H3 t3 k3 o3 ⟨h3, e3, f3, l3, p3, st3, sk3⟩ vs L rs => ?_⟩
    obtain ⟨rs', nm⟩ := rs.unhold p3
    have q3 : ObjRep X.K (g3.wP g1.P) H3 a o := q.mono st3.le e3
    exact PostE.done h3 (o3.unhold p3) _ _ (.new f3 np l3 q3 nm rs')
end
/-! ### stores -/
def assignAll : List Nat → List RV → S → Option S
  | [], [], s => some s
  | i :: is, r :: rs, s => match assign i r s with
    | some s1 => assignAll is rs s1
    | none => none
  | _, _, _ => none
def setAll (σ : St) : List Nat → List V → St
  | i :: is, v :: vs => setAll (σ.set i (some v)) is vs
  | _, _ => σ
section
variable {K : PySem.W.Frag} {W : WX}
theorem assignAll_ok : ∀ {is : List Nat} {vs : List V} {rs : List RV} {L : List Addr} {σ : St} {g : G} {s s' : S} {H : Hp}, Ok K g s σ H → RepRVs K g s H vs rs L → assignAll is rs s = some s' →
    ∃ g', Step g H g' H ∧ Ok K g' s' (setAll σ is vs) H := by
  intro is
  induction is with
  | nil =>
    intro vs rs L σ g s s' H ok r e
    cases r with
    | nil => cases e; exact ⟨g, Step.refl _ _, ok⟩
    | d _ _ => cases e
    | new _ _ _ _ _ _ => cases e
  | cons i is ih =>
    intro vs rs L σ g s s' H ok r e
    cases r with
    | nil => cases e
    | @d v x vs rs L rx r =>
      simp only [assignAll] at e
      split at e
      · rename_i s1 e1
        simp only [assign] at e1
        split at e1
        · rename_i hi
          cases e1
          have o1 := ok.setVal rx hi
          have r1 : RepRVs K g { s with env := s.env.set i (.val x) } H vs rs L := by
            clear ih e
            induction r with
            | nil => exact .nil
            | d x _ ih => exact .d x ih
            | new n np nl q m _ ih =>
              refine .new n np (fun ⟨l, w, z, za⟩ => nl ?_) q m ih
              rcases cellOf_set hi z with ⟨_, z⟩ | ⟨_, z⟩
              · cases z
              · exact ⟨l, w, z, za⟩
          exact ih o1 r1 e
        · cases e1
      · cases e
    | @new a o vs rs L n np nl q m r =>
      simp only [assignAll] at e
      split at e
      · rename_i s1 e1
        simp only [assign] at e1
        split at e1
        · rename_i hi
          cases e1
          have o1 := ok.setOwn hi n np nl q
          have r1 : RepRVs K (g.put i a) { s with env := s.env.set i (.own o) } H vs rs L := by
            clear ih e
            induction r with
            | nil => exact .nil
            | d x _ ih => exact .d (Rep.mono put_le x) (ih (by simpa using m))
            | @new b w _ _ _ n2 np2 nl2 q2 m2 _ ih2 =>
              have ne : b ≠ a := fun z => m (by rw [z]; exact List.mem_cons_self)
              refine .new n2 np2 (fun ⟨l, w, z, za⟩ => ?_) (q2.mono put_le rfl) m2 (ih2 fun z => m (List.mem_cons_of_mem _ z))
              rcases cellOf_set hi z with ⟨rfl, _⟩ | ⟨hl, z⟩
              · rw [put_same] at za; exact ne za.symm
              · rw [put_ne hl] at za; exact nl2 ⟨l, w, z, za⟩
          obtain ⟨g2, t2, o2⟩ := ih o1 r1 e
          exact ⟨g2, (put_step (i := i) (a := a)).trans t2, o2⟩
        · cases e1
      · cases e
end
def mParN (is : List Nat) (m : S → Res (List RV)) : S → Res Out := fun s => (m s).bind fun rs s1 => match assignAll is rs s1 with
  | some s2 => .ok .nx s2
  | none => .stuck
theorem RepRVs.len {K : PySem.W.Frag} {g : G} {s : S} {H : Hp} {vs : List V} {rs : List RV} {L : List Addr} (r : RepRVs K g s H vs rs L) : vs.length = rs.length := by
  induction r with
  | nil => rfl
  | d _ _ ih => simp [ih]
  | new _ _ _ _ _ _ ih => simp [ih]
theorem assignAll_len : ∀ {is : List Nat} {rs : List RV} {s s' : S}, assignAll is rs s = some s' → is.length = rs.length
  | [], [], _, _, _ => rfl
  | [], _ :: _, _, _, e => by cases e
  | _ :: _, [], _, _, e => by cases e
  | i :: is, r :: rs, s, s', e => by
    simp only [assignAll] at e
    split at e
    · rw [List.length_cons, List.length_cons, assignAll_len e]
    · cases e
section
variable {X : Cx} {W : WX} {a b c : Expr} {m : S → Res (List RV)}
theorem ms_par {i j : Nat} {x y : Str} {px py pt pos : Pos} {kt k2 pt2} (hc : X.calm = true) (hN : X.N.Nodup) (ha : MR X W [a, b] m) (hi : X.N[i]? = some x := by rfl) (hj : X.N[j]? = some y := by rfl) (hij : i ≠ j := by decide)
    (hx : X.env.scope.names.lookup x = some .local := by rfl) (hy : X.env.scope.names.lookup y = some .local := by rfl)
    (hw : swappedStores [.Tuple [.Name x px, .Name y py] kt pt] (.Tuple [a, b] k2 pt2) X.env = pure (some [x, y]) := by rfl)
    (hs : swapsWithSole [.Tuple [.Name x px, .Name y py] kt pt] (.Tuple [a, b] k2 pt2) pos.line X.env = pure false := by rfl) :
    MS X W (.Assign [.Tuple [.Name x px, .Name y py] kt pt] (.Tuple [a, b] k2 pt2) pos) (mParN [i, j] m) := by
  refine ps_imp (ps_par hc hN hi hj hij hx hy ha hw hs) fun D σ H ⟨g, s, ok, h⟩ => ?_
  refine ⟨g, s, ok, (PostS.bind h).mono fun rs g1 s1 H1 t1 k1 o1 h1 vs L rv => ?_⟩
  split at h1
  · rename_i s2 e
    obtain ⟨g2, t2, o2⟩ := assignAll_ok o1 rv e
    have hl := (assignAll_len e).trans rv.len.symm
    obtain ⟨v, w, rfl⟩ : ∃ v w, vs = [v, w] := by
      match vs, hl with
      | [v, w], _ => exact ⟨v, w, rfl⟩
    exact ⟨v, w, rfl, h1 _ g2 H1 t2 o2⟩
  · exact h1.elim
theorem ms_par3 {i j l : Nat} {x y z : Str} {px py pz pt pos : Pos} {kt k2 pt2} (hc : X.calm = true) (hN : X.N.Nodup) (ha : MR X W [a, b, c] m) (hi : X.N[i]? = some x := by rfl) (hj : X.N[j]? = some y := by rfl) (hl : X.N[l]? = some z := by rfl)
    (hij : i ≠ j := by decide) (hil : i ≠ l := by decide) (hjl : j ≠ l := by decide)
    (hx : X.env.scope.names.lookup x = some .local := by rfl) (hy : X.env.scope.names.lookup y = some .local := by rfl) (hz : X.env.scope.names.lookup z = some .local := by rfl)
    (hw : swappedStores [.Tuple [.Name x px, .Name y py, .Name z pz] kt pt] (.Tuple [a, b, c] k2 pt2) X.env = pure (some [x, y, z]) := by rfl)
    (hs : swapsWithSole [.Tuple [.Name x px, .Name y py, .Name z pz] kt pt] (.Tuple [a, b, c] k2 pt2) pos.line X.env = pure false := by rfl) :
    MS X W (.Assign [.Tuple [.Name x px, .Name y py, .Name z pz] kt pt] (.Tuple [a, b, c] k2 pt2) pos) (mParN [i, j, l] m) := by
  refine ps_imp (ps_par3 hc hN hi hj hl hij hil hjl hx hy hz ha hw hs) fun D σ H ⟨g, s, ok, h⟩ => ?_
  refine ⟨g, s, ok, (PostS.bind h).mono fun rs g1 s1 H1 t1 k1 o1 h1 vs L rv => ?_⟩
  split at h1
  · rename_i s2 e
    obtain ⟨g2, t2, o2⟩ := assignAll_ok o1 rv e
    have hl := (assignAll_len e).trans rv.len.symm
    obtain ⟨v, w, u, rfl⟩ : ∃ v w u, vs = [v, w, u] := by
      match vs, hl with
      | [v, w, u], _ => exact ⟨v, w, u, rfl⟩
    exact ⟨v, w, u, rfl, h1 _ g2 H1 t2 o2⟩
  · exact h1.elim
end

/-! ### a tuple's parts to names -/
/-- targets that are plain names, by their slots -/
def gNames : List Nat → TGs
  | [] => gNil
  | i :: is => gCons (gName i) (gNames is)
theorem gNames_set : ∀ {is : List Nat} {vs : List V} {σ : St} {H : Hp} {Q : St → Hp → Prop}, is.length = vs.length → Q (setAll σ is vs) H → gNames is vs σ H Q
  | [], [], _, _, _, _, q => ⟨rfl, q⟩
  | i :: is, v :: vs, σ, H, Q, hl, q => ⟨v, vs, rfl, gNames_set (is := is) (vs := vs) (σ := σ.set i (some v)) (by simpa using hl) q⟩
def mUnp (is : List Nat) (m : M) : S → Res Out := fun s => (mLeak m s).bind fun d s1 => match d with
  | .tup ds => match assignAll is (ds.map .d) s1 with
    | some s2 => .ok .nx s2
    | none => .stuck
  | _ => .stuck
theorem repRVs_d {K : PySem.W.Frag} {g : G} {s : S} {H : Hp} : ∀ {vs : List V} {ds : List D}, RepL K g vs ds → RepRVs K g s H vs (ds.map .d) []
  | _, _, .nil => .nil
  | _, _, .cons a b => .d a (repRVs_d b)
section
variable {X : Cx} {W : WX} {e : Expr} {me : M} {ts es : List Expr} {is : List Nat} {m : S → Res (List RV)}
theorem ms_unp {kt : Nat} {pt pos : Pos} (hc : X.calm = true) (he : ME X W e me) (ht : PGs X ts (gNames is))
    (hn : (assignEach ts X.env).length = is.length := by rfl) (hst : (assignEach ts X.env).findIdx? (·.1) = none := by rfl)
    (hs : swapsWithSole [.Tuple ts kt pt] e pos.line X.env = pure false := by rfl) (hw : swappedStores [.Tuple ts kt pt] e X.env = pure none := by rfl)
    (h1 : (assignEach [.Tuple ts kt pt] X.env).map (·.2) = [PySem.assign (.Tuple ts kt pt) X.env] := by rfl) :
    MS X W (.Assign [.Tuple ts kt pt] e pos) (mUnp is me) := by
  refine ps_imp (ps_asg he (pg_tup hc ht hn hst) hs hw h1) fun D σ H ⟨g, s, ok, h⟩ => ?_
  refine tM_leak ok (PostS.bind h) fun d g1 s1 H1 v t1 k1 o1 rv h1 => ?_
  split at h1
  · rename_i ds
    split at h1
    · rename_i s2 e
      cases rv with
      | tup hq rl =>
        obtain ⟨g2, t2, o2⟩ := assignAll_ok o1 (repRVs_d rl) e
        have hl := (assignAll_len e).trans ((List.length_map _).trans rl.length.symm)
        exact ⟨_, _, rfl, sqT_mono o1.sub hq, hl.symm, gNames_set hl (h1 _ g2 H1 t2 o2)⟩
    · exact h1.elim
  · exact h1.elim
/-- (x, y, ..) = (a, b, ..) where the tuple is made: the parts may be new objects -/
theorem ms_tupN {kt kt2 : Nat} {pt pt2 pos : Pos} (hc : X.calm = true) (he : MR X W es m) (ht : PGs X ts (gNames is)) (hl20 : is.length ≤ 100)
    (hn : (assignEach ts X.env).length = is.length := by rfl) (hst : (assignEach ts X.env).findIdx? (·.1) = none := by rfl)
    (hs : swapsWithSole [.Tuple ts kt pt] (.Tuple es kt2 pt2) pos.line X.env = pure false := by rfl) (hw : swappedStores [.Tuple ts kt pt] (.Tuple es kt2 pt2) X.env = pure none := by rfl)
    (h1 : (assignEach [.Tuple ts kt pt] X.env).map (·.2) = [PySem.assign (.Tuple ts kt pt) X.env] := by rfl) :
    MS X W (.Assign [.Tuple ts kt pt] (.Tuple es kt2 pt2) pos) (mParN is m) := by
  refine ps_imp (ps_asg (pe_tup he) (pg_tup hc ht hn hst) hs hw h1) fun D σ H ⟨g, s, ok, h⟩ => ?_
  refine ⟨g, s, ok, (PostS.bind h).mono fun rs g1 s1 H1 t1 k1 o1 h1 vs L rv => ?_⟩
  split at h1
  · rename_i s2 e
    obtain ⟨g2, t2, o2⟩ := assignAll_ok o1 rv e
    have hl := (assignAll_len e).trans rv.len.symm
    have z : 100 ≤ sizeLine := by decide
    refine ⟨by omega, fun p hp => ⟨p, vs, rfl, .of upd_same, hl.symm, gNames_set hl ?_⟩⟩
    exact h1 _ g2 _ (t2.trans (Step.grow o2 hp)) (o2.grow hp)
  · exact h1.elim
theorem mgs_nil : PGs X [] (gNames []) := pgs_nil
theorem mgs_cons {i : Nat} {x : Str} {pos : Pos} (h2 : PGs X es (gNames is)) (hN : X.N.Nodup) (hi : X.N[i]? = some x := by rfl) (hx : L2.Loc X.env.scope x := by first | exact Or.inl rfl | exact Or.inr rfl)
    (hs : (assignEach (.Name x pos :: es) X.env).map (·.2) = PySem.assign (.Name x pos) X.env :: (assignEach es X.env).map (·.2) := by rfl) (hf : X.fn x = true ∨ X.env.scope.names.lookup x = some .local := by first | exact .inl rfl | exact .inr rfl) :
    PGs X (.Name x pos :: es) (gNames (i :: is)) := pgs_cons (pg_name hN hi hx hf) h2 hs
end
end MI
/-! # Subscripts, slices -/
namespace HT
open PySem PyProof.Rows
section
variable {prog : Program} {w : World} {A : Around} {E : Value → Shared → Prop} {s : Shared}
theorem rev_bounds (n : Nat) : Builtin.Slice.sliceAdjust none none (-1) (n : Int) = ((n : Int) - 1, -1) := by
  unfold Builtin.Slice.sliceAdjust
  simp
theorem rev_places (n : Nat) : Builtin.Slice.slicePlaces ((n : Int) - 1) (-1) (-1) = n := by
  unfold Builtin.Slice.slicePlaces
  simp
  omega
theorem sliceApplied_rev {sl : Addr} {vk : Value} {n : Nat} {Q : Int × Int × Nat → Shared → Prop} (hs : s.heap.IsSliceOf sl .none .none vk) (pk : IsPart vk (some (-1)))
    (h : Q ((n : Int) - 1, -1, n) s) : wpAny (model prog w) A (Builtin.Slice.sliceApplied (.ref sl) (pure (n : Int))) Q E s := by
  obtain ⟨os, hos, hcs, hds⟩ := id hs
  unfold Builtin.Slice.sliceApplied Builtin.Slice.sliceFields
  refine wpAny_bind (wpAny_bind (wpAny_field hos hds (x := .none) rfl (wpAny_bind (wpAny_field hos hds (x := .none) rfl (wpAny_bind (wpAny_field hos hds (x := vk) rfl (wpAny_pure ?_)))))))
  refine wpAny_bind (slicePart_ pk ?_)
  show wpAny _ _ (if ((-1 : Int) == 0) = true then _ else _) _ _ s
  rw [if_neg (by decide)]
  refine wpAny_bind (slicePart_none (wpAny_bind (slicePart_none (wpAny_bind (wpAny_pure ?_)))))
  show wpAny _ _ (match Builtin.Slice.sliceAdjust none none (-1) (n : Int) with | (lo, hi) => pure (lo, (-1 : Int), Builtin.Slice.slicePlaces lo hi (-1))) _ _ s
  rw [rev_bounds]
  show wpAny _ _ (pure ((n : Int) - 1, (-1 : Int), Builtin.Slice.slicePlaces ((n : Int) - 1) (-1) (-1))) _ _ s
  rw [rev_places]
  exact wpAny_pure h
theorem filterMap_cg {α β : Type} {f g : α → Option β} : ∀ {l : List α}, (∀ x ∈ l, f x = g x) → l.filterMap f = l.filterMap g
  | [], _ => rfl
  | x :: l, h => by
    rw [List.filterMap_cons, List.filterMap_cons, h x List.mem_cons_self, filterMap_cg fun y hy => h y (List.mem_cons_of_mem _ hy)]
theorem pick_rev (xs : Array Value) : ((List.range xs.size).filterMap fun (m : Nat) => xs[((xs.size : Int) - 1 + (m : Int) * (-1)).toNat]?).toArray = xs.toList.reverse.toArray := by
  congr 1
  have e : ∀ m ∈ List.range xs.size, xs[((xs.size : Int) - 1 + (m : Int) * (-1)).toNat]? = xs[xs.size - 1 - m]? := by
    intro m hm
    have := List.mem_range.mp hm
    have e : ((xs.size : Int) - 1 + (m : Int) * (-1)).toNat = xs.size - 1 - m := by omega
    rw [e]
  rw [filterMap_cg e]
  have h2 : (List.range xs.size).filterMap (fun m => xs[xs.size - 1 - m]?) = ((List.range xs.size).map fun k => xs.size - 1 - k).filterMap (xs[·]?) := by
    rw [List.filterMap_map]; rfl
  rw [h2, PySem.W.krv_range, List.filterMap_reverse, PySem.W.krv_all]
theorem getItem_tuple_rev {t sl : Addr} {items : Array Value} {vk : Value} {Q : Value → Shared → Prop} (ht : IsTup s.heap t items) (hs : s.heap.IsSliceOf sl .none .none vk) (pk : IsPart vk (some (-1)))
    (h : Q (.ref s.heap.objs.size) { s with heap := s.heap.push { cls := .type "tuple", data := .seq items.toList.reverse.toArray } })
    (hsz : items.size ≤ sizeLine) : wpAny (model prog w) A (getItem (.ref t) (.ref sl)) Q E s := by
  have htake : sizeOk (.seq items.toList.reverse.toArray) := by
    show items.toList.reverse.toArray.size ≤ sizeLine
    rw [List.size_toArray, List.length_reverse, Array.length_toList]
    exact hsz
  obtain ⟨os, hos, hcs, hds⟩ := id hs
  have hTs : s.TypeIs (.ref sl) "slice" := ⟨os, hos, hcs⟩
  unfold getItem
  try with_reducible refine wpAny_holding ?_
  first | refine wpAny_bind (wpAny_pure ?_) | skip
  refine wpAny_bind (wpAny_sequenceKey ht.typeIs (by decide) ?_)
  refine wpAny_bind (wpAny_callSpecial?_slot (name := Str.ofString "__getitem__") ht.typeIs PyProof.Rows.slot_tuple_getitem
    (wpAny_call_entry PyProof.Rows.slot_tuple_getitem ht.typeIs entry_tuple_getitem ?_ (args_tuple_getitem _ _)))
  show wpAny _ _ (Builtin.Tuple.tupleItemsOf (.ref t) >>= _) _ _ s
  refine wpAny_bind (tupleItemsOf_ ht ?_)
  refine wpAny_bind (wpAny_typeOf hTs ?_)
  rw [if_pos (by decide)]
  refine wpAny_bind (sliceApplied_rev hs pk ?_)
  have hno : ¬ ((((items.size : Int) - 1) == 0 && (-1 : Int) == 1 && items.size == items.size) = true) := by
    intro q
    rw [Bool.and_eq_true, Bool.and_eq_true] at q
    exact absurd q.1.2 (by decide)
  show wpAny _ _ (if (((items.size : Int) - 1) == 0 && (-1 : Int) == 1 && items.size == items.size) = true then _ else _) _ _ s
  rw [if_neg hno, pick_rev]
  first
    | exact wpAny_bind (m := Builtin.Tuple.tupleExact _) (wpAny_newObj_type (wpAny_pure ⟨_, rfl, wpAny_pure h⟩) htake)
    | exact wpAny_bind (m := Builtin.Tuple.tupleExact _) (wpAny_newObj_type (wpAny_bind (wpAny_pure (wpAny_pure ⟨_, rfl, wpAny_pure h⟩))) htake)
    | exact wpAny_bind (wpAny_bind (m := Builtin.Tuple.tupleExact _) (wpAny_newObj_type (wpAny_pure (wpAny_pure ⟨_, rfl, wpAny_pure h⟩)) htake))
    | exact wpAny_bind (wpAny_bind (m := Builtin.Tuple.tupleExact _) (wpAny_newObj_type (wpAny_pure ⟨_, rfl, wpAny_pure h⟩) htake))
end
end HT
namespace L2
open PySem PySem.Spec PyProof.Rows
section
variable {X : Cx} {e k : Expr} {te tk : TE} {pos p2 : Pos}
/-- xs[::k], k minus one: a list or a tuple backward -/
def tRev (K : PySem.W.Frag) (te tk : TE) : TE := fun σ H Q => te σ H fun x H1 => tk σ H1 fun y H2 => y = .int (-1) ∧
  ((∃ a xs, x = .ref a ∧ SqL K H2 a xs ∧ ∀ p, H2 p = none → Q (.ref p) (upd H2 p (.lst xs.reverse))) ∨
   (∃ a xs, x = .ref a ∧ SqT K H2 a xs ∧ ∀ p, H2 p = none → Q (.ref p) (upd H2 p (.tup xs.reverse))))
theorem pe_rev (he : PE X e te) (hk : PE X k tk) : PE X (.Subscript e (.Slice none none (some k) p2) pos) (tRev X.K te tk) := by
  refine ⟨fun pins s σ H Q I h => ?_⟩
  refine Subscript_ (thn (he.run pins s σ H _ I h) fun v s1 ⟨x, H1, I1, r1, q1⟩ => ?_)
  refine wpAny_Slice ?_
  rw [evalPart_none, evalPart_some]
  refine wpAny_pure (wpAny_pure ?_)
  refine thn (hk.run pins s1 σ H1 _ I1 q1) fun vk s2 ⟨y, H2, I2, rk, hy, hq⟩ => ?_
  subst hy
  obtain ⟨tk, rfl⟩ := rk
  have I4 : Inv X pins σ H2 { s2 with heap := s2.heap.push { cls := .type "slice", data := .fields #[.none, .none, .int (-1) tk] } } := I2.kept (t' := s2.toks) fun b ob q => Heap.get?_push_of_some _ q
  show wpAny (model X.prog X.w) X.A (subscriptTail e (.Slice none none (some k) p2) v (.ref s2.heap.objs.size)) (EP X pins σ Q) X.xe { s2 with heap := s2.heap.push { cls := .type "slice", data := .fields #[.none, .none, .int (-1) tk] } }
  have hs := Heap.IsSliceOf.new s2.heap .none .none (.int (-1) tk)
  rcases hq with ⟨a, xs, rfl, hx, q⟩ | ⟨a, xs, rfl, hx, q⟩
  · cases r1
    obtain ⟨its, r, ht, hz⟩ := I4.list hx
    have hlen := r.length
    refine tail_any (ops := [.ref a, .ref s2.heap.objs.size]) ht.isList.typeIs slot_list_getitem.lookup ?_ (by with_unfolding_all rfl)
    refine wpAny_getItem_list_slice ht.isList hs .none .none (.int _ _) (by simp) ?_ (by rw [List.size_toArray] <;> omega)
    rw [PySem.W.krv_pick]
    refine ⟨.ref _, _, I4.laid (t' := s2.toks) (o := .lst xs.reverse) (fun b ob q => Heap.get?_push_of_some _ q) (Nat.le_refl _) ?_, rfl, q _ (I4.hok.fresh (Nat.le_refl _))⟩
    exact ⟨by rw [List.length_reverse]; exact hz, _, 0, r.reverse, Heap.get?_push_size _ rfl⟩
  · cases r1
    obtain ⟨its, r, ht, hz⟩ := I4.tuple hx
    have hlen := r.length
    refine tail_any (ops := [.ref a, .ref s2.heap.objs.size]) ht.typeIs PyProof.Rows.slot_tuple_getitem.lookup ?_ (by with_unfolding_all rfl)
    refine HT.getItem_tuple_rev ht hs (.int _ _) ?_ (by rw [List.size_toArray]; omega)
    refine ⟨.ref _, _, I4.laid (t' := s2.toks) (o := .tup xs.reverse) (fun b ob q => Heap.get?_push_of_some _ q) (Nat.le_refl _) ?_, rfl, q _ (I4.hok.fresh (Nat.le_refl _))⟩
    refine ⟨by rw [List.length_reverse]; exact hz, its.reverse, r.reverse, ?_⟩
    exact IsTup.new _ _
end
end L2

namespace MI
open PySem L2
/-! ### a[i] -/
def opIx : S → RV → RV → Res RV := fun s a b => match asInt b with
  | none => .stuck
  | some i => match asTup a with
    | some xs => (match atI xs i with
      | some d => .ok (.d d) s
      | none => .stuck)
    | none => match asLst s a with
      | some xs => (match atI xs i with
        | some d => .ok (.d d) s
        | none => .stuck)
      | none => match asStr a with
        | some z => if z.length ≤ sizeLine then (match atI z.cps.toList i with
          | some c => .ok (.d (.str ⟨#[c]⟩)) s
          | none => .stuck) else .stuck
        | none => .stuck
theorem atI_rep {K : PySem.W.Frag} {g : G} {vs : List V} {ds : List D} {i : Int} {d : D} (r : RepL K g vs ds) (e : atI ds i = some d) : ∃ v, atI vs i = some v ∧ Rep K g v d := by
  unfold atI at e ⊢
  rw [r.length]
  cases h : ixN ds.length i with
  | none => rw [h] at e; cases e
  | some j =>
    rw [h] at e
    exact r.get e
section
variable {X : Cx} {W : WX} {a b e : Expr} {ma mb me : M} {pos p2 : Pos}
theorem os_ix : OpS X W (rIx X.K) opIx := by
  intro σ g s H Q x y ra rb ok rx ry nn q
  unfold opIx at q
  split at q
  · exact q.elim
  · rename_i i e1
    have ey := asInt_ok ry e1
    split at q
    · rename_i xs e2
      split at q
      · rename_i d e3
        obtain ⟨p, vs, rfl, h, r⟩ := asTup_ok ok rx e2
        obtain ⟨v, hv, rv⟩ := atI_rep r e3
        exact .inr (.inl ⟨p, vs, i, v, rfl, ey, h, hv, kE_d q ok (Rep.mono (GLe.refl _) rv)⟩)
      · exact q.elim
    · split at q
      · rename_i xs e2
        split at q
        · rename_i d e3
          obtain ⟨p, vs, rfl, h, r⟩ := asLst_ok ok rx e2
          obtain ⟨v, hv, rv⟩ := atI_rep r e3
          exact .inl ⟨p, vs, i, v, rfl, ey, .of h, hv, kE_d q ok rv⟩
        · exact q.elim
      · split at q
        · rename_i z e2
          split at q
          · rename_i hz
            split at q
            · rename_i c e3
              exact .inr (.inr ⟨z, i, c, asStr_ok rx e2, ey, hz, e3, kE_d q ok (.str _)⟩)
            · exact q.elim
          · exact q.elim
        · exact q.elim
theorem me_ix (ha : ME X W a ma) (hb : ME X W b mb) (hs : PlainIx b := by exact fun _ _ => rfl) : ME X W (.Subscript a b pos) (mBin opIx ma mb) :=
  pe_imp (pe_ix ix_seq ha hb hs) fun _ _ _ ⟨_, _, ok, h⟩ => tOp_of os_ix ok h
/-! ### a[i:j] -/
def MO (X : Cx) (W : WX) (e : Option Expr) (m : S → Res (Option Int)) : Prop :=
  PO X e (fun σ H Q => ∃ g s, Ok X.K g s σ H ∧ PostE X.K W σ g s H (fun r _ _ H => Q r H) (m s))
def mNoPart : S → Res (Option Int) := fun s => .ok none s
def mPart (m : M) : S → Res (Option Int) := fun s => (m s).bind fun r s1 => match asInt r with
  | some i => .ok (some i) s1
  | none => .stuck
theorem po_imp {e : Option Expr} {t t' : TO} (h : PO X e t) (i : ∀ σ H Q, t' σ H Q → t σ H Q) : PO X e t' :=
  ⟨fun pins s σ H Q I q => h.run pins s σ H Q I (i σ H Q q)⟩
theorem mo_none : MO X W none mNoPart := po_imp po_none fun σ H Q ⟨g, s, ok, h⟩ => PostE.done (W := W) h ok
theorem mo_some (h : ME X W e me) : MO X W (some e) (mPart me) := by
  refine po_imp (po_some h) fun σ H Q ⟨g, s, ok, h⟩ => ⟨g, s, ok, (PostE.bind h).mono fun r g1 s1 H1 t1 k1 o1 h1 v rv => ?_⟩
  split at h1
  · rename_i i e
    exact ⟨i, asInt_ok rv e, PostE.done (W := W) h1 o1⟩
  · exact h1.elim
def cut {α : Type} (xs : List α) (lo hi : Option Int) : List α := (xs.drop (HT.sIx xs.length 0 lo)).take (HT.sIx xs.length xs.length hi - HT.sIx xs.length 0 lo)
theorem cut_rep {K : PySem.W.Frag} {g : G} {vs : List V} {ds : List D} (r : RepL K g vs ds) (lo hi : Option Int) : RepL K g (cutV vs lo hi) (cut ds lo hi) := by
  unfold cutV cut
  rw [r.length]
  exact (r.drop _).take _
def asScr : RV → Option (List D)
  | .d (.scr xs) => some xs
  | _ => none
theorem asScr_ok {K : PySem.W.Frag} {σ : St} {g : G} {s : S} {H : Hp} {v : V} {r : RV} {xs : List D} (ok : Ok K g s σ H) (h : RepRV K g s H v r) (e : asScr r = some xs) : ∃ a vs, v = .ref a ∧ SqL K H a vs ∧ RepL K g vs xs := by
  cases r with
  | d x =>
    cases x with
    | scr ys =>
      cases e
      cases (show Rep K g v _ from h) with
      | scr h1 r => exact ⟨_, _, rfl, sqL_mono ok.sub h1, r⟩
    | _ => cases e
  | «at» i => cases e
  | new o => cases e
def opSl (lo hi : Option Int) : S → RV → Res RV := fun s a => match asTup a with
  | some xs => .ok (.d (.tup (cut xs lo hi))) s
  | none => match asLst s a with
    | some xs => .ok (.new (.lst (cut xs lo hi))) s
    | none => match asScr a with
     | some xs => .ok (.new (.lst (cut xs lo hi))) s
     | none => match asStr a with
      | some z => if z.length ≤ sizeLine then .ok (.d (.str (cutS z lo hi))) s else .stuck
      | none => .stuck
def mSlice (a : M) (lo hi : S → Res (Option Int)) : M := fun s => (mSettle a s).bind fun x s1 => (lo s1).bind fun l s2 => (hi s2).bind fun u s3 => opSl l u s3 x
def rSlM (K : PySem.W.Frag) : V → Option Int → Option Int → Hp → VK → Prop := fun x lo hi H Q => rSlA K x lo hi H Q ∨ rSlL K x lo hi H Q ∨ rSlS x lo hi H Q
theorem sl_M : SlR X (rSlM X.K) := sl_tupA.or (sl_list.or sl_str)
theorem cut_whole {α : Type} {xs : List α} {lo hi : Option Int} (h : HT.sIx xs.length 0 lo = 0 ∧ HT.sIx xs.length xs.length hi = xs.length) : cut xs lo hi = xs := by
  unfold cut
  rw [h.1, h.2]
  simp
theorem me_slice {lo hi : Option Expr} {ml mh : S → Res (Option Int)} (ha : ME X W a ma) (hl : MO X W lo ml) (hh : MO X W hi mh) : ME X W (.Subscript a (.Slice lo hi none p2) pos) (mSlice ma ml mh) := by
  refine pe_imp (pe_slice sl_M ha hl hh) fun σ H Q ⟨g, s, ok, h⟩ => ?_
  refine tM_settle ok (PostE.bind h) fun x g1 s1 H1 v t1 k1 o1 rv nn h1 => ?_
  refine ⟨g1, s1, o1, (PostE.bind h1).mono fun l g2 s2 H2 t2 k2 o2 h2 => ?_⟩
  refine ⟨g2, s2, o2, (PostE.bind h2).mono fun u g3 s3 H3 t3 k3 o3 h3 => ?_⟩
  have rv2 : RepRV X.K g2 s2 H2 v x := rv.held nn t2 k2
  have rv3 : RepRV X.K g3 s3 H3 v x := rv2.held nn t3 k3
  unfold opSl at h3
  split at h3
  · rename_i xs e
    obtain ⟨p, vs, rfl, hq, r⟩ := asTup_ok o3 rv3 e
    refine .inl ⟨p, vs, rfl, hq, fun z => ?_, fun z p hp => kE_tup h3 o3 hp (cut_rep r l u)⟩
    rw [r.length] at z
    rw [cut_whole z] at h3
    cases x with
    | d w =>
      cases w <;> first | cases e
      exact kE_d h3 o3 rv3
    | «at» _ => cases e
    | new _ => cases e
  · split at h3
    · rename_i xs e
      obtain ⟨p, vs, rfl, hq, r⟩ := asLst_ok o3 rv3 e
      exact .inr (.inl ⟨p, vs, rfl, .of hq, fun p hp => kE_new h3 o3 hp ⟨_, upd_same, cut_rep r l u⟩⟩)
    · split at h3
      · rename_i xs e
        obtain ⟨p, vs, rfl, hq, r⟩ := asScr_ok o3 rv3 e
        exact .inr (.inl ⟨p, vs, rfl, hq, fun p hp => kE_new h3 o3 hp ⟨_, upd_same, cut_rep r l u⟩⟩)
      · split at h3
        · rename_i z e
          split at h3
          · rename_i hz
            exact .inr (.inr ⟨z, asStr_ok rv3 e, hz, kE_d h3 o3 (.str _)⟩)
          · exact h3.elim
        · exact h3.elim
/-- a[::-1] -/
def opRev : S → RV → RV → Res RV := fun s a b => match asInt b with
  | some i => if i = -1 then (match asTup a with
    | some xs => .ok (.d (.tup xs.reverse)) s
    | none => match asLst s a with
      | some xs => .ok (.new (.lst xs.reverse)) s
      | none => .stuck) else .stuck
  | none => .stuck
theorem me_rev (ha : ME X W a ma) (hb : ME X W b mb) : ME X W (.Subscript a (.Slice none none (some b) p2) pos) (mBin opRev ma mb) := by
  refine pe_imp (pe_rev ha hb) fun σ H Q ⟨g, s, ok, h⟩ => ?_
  refine tM_settle ok (PostE.bind h) fun x g1 s1 H1 v t1 k1 o1 rv nn h1 => ?_
  refine ⟨g1, s1, o1, (PostE.bind h1).mono fun y g2 s2 H2 t2 k2 o2 h2 u ru => ?_⟩
  have rv2 : RepRV X.K g2 s2 H2 v x := rv.held nn t2 k2
  unfold opRev at h2
  split at h2
  · rename_i i e1
    by_cases hi : i = -1
    case neg => rw [if_neg hi] at h2; exact h2.elim
    rw [if_pos hi] at h2
    subst hi
    refine ⟨asInt_ok ru e1, ?_⟩
    split at h2
    · rename_i xs e
      obtain ⟨p, vs, rfl, hq, r⟩ := asTup_ok o2 rv2 e
      exact .inr ⟨p, vs, rfl, hq, fun p hp => kE_tup h2 o2 hp r.reverse⟩
    · split at h2
      · rename_i xs e
        obtain ⟨p, vs, rfl, hq, r⟩ := asLst_ok o2 rv2 e
        exact .inl ⟨p, vs, rfl, .of hq, fun p hp => kE_new h2 o2 hp ⟨_, upd_same, r.reverse⟩⟩
      · exact h2.elim
  · exact h2.elim
end
end MI
/-! # Built-in functions, methods of lists -/
namespace MI
open PySem L2

section
variable {K : PySem.W.Frag} {W : WX} {σ : St} {g : G} {s : S} {H : Hp}
/-- a built-in function of one value that makes nothing -/
def mFn1 (f : S → RV → Res RV) (m : M) : M := fun s => (m s).bind fun r s1 => f s1 r
end
section
variable {X : Cx} {W : WX} {e a b c : Expr} {me ma mb mc : M} {pos p : Pos} {x : Str}
/-- one argument that is not given away -/
theorem ma_one {r : List V → Hp → VK → Prop} {f : S → RV → Res RV}
    (hf : ∀ (σ : St) (g : G) (s : S) (H : Hp) (Q : VK) (v : V) (rv : RV), Ok X.K g s σ H → RepRV X.K g s H v rv → PostE X.K W σ g s H (kE X.K Q) (f s rv) → r [v] H Q)
    {σ : St} {H : Hp} {Q : VK} {g : G} {s : S} (ok : Ok X.K g s σ H) (h : PostE X.K W σ g s H (kE X.K Q) (mFn1 f me s)) : tCB r (tCons (tM X.K W me) tNil) σ H Q :=
  ⟨g, s, ok, (PostE.bind h).mono fun rv g1 s1 H1 t1 k1 o1 h1 v rr => hf σ g1 s1 H1 Q v rv o1 rr h1⟩
/-! ### len -/
def lenD : D → Option Nat
  | .str y => if y.length ≤ sizeLine then some y.length else none
  | .tup xs => some xs.length
  | .lst xs => some xs.length
  | .dic xs => some xs.length
  | .scr xs => some xs.length
  | _ => none
def fLen : S → RV → Res RV := fun s r => match (asD s r).bind lenD with
  | some n => .ok (.d (.int n)) s
  | none => .stuck
theorem call_lenM (hc : True) : CallR X (.builtin "len") (fun xs H Q => (∃ x n, xs = [x] ∧ LenV X.K x H n ∧ Q (.int n) H) ∨ ∃ p kvs, xs = [.ref p] ∧ H p = some (.dK kvs) ∧ Q (.int kvs.length) H) := by
  intro pins s σ H xs us Q I r h
  rcases h with h | ⟨p, kvs, rfl, hp, q⟩
  · exact call_len pins s σ H xs us Q I r h
  · exact call_lenD pins s σ H _ us Q I r ⟨p, kvs, rfl, hp, q⟩
theorem RepK.length {K : PySem.W.Frag} {g : G} : ∀ {v : List (Key × V)} {d : List (Key × D)}, RepK K g v d → v.length = d.length
  | _, _, .nil => rfl
  | _, _, .cons _ b => by rw [List.length_cons, List.length_cons, RepK.length b]
theorem me_len (ha : ME X W a ma) (hg : Gl X "len") (hm : X.mg "len" = none) (hs : starEach [a] X.env = (false, eval a X.env) :: starEach [] X.env := by rfl) : ME X W (.Call (.Name "len" p) [a] [] pos) (mFn1 fLen ma) := by
  refine pe_imp (pe_callB (call_lenM trivial) hg hm PySem.boot_len (pa_cons ha pa_nil hs) (he := hs)) fun σ H Q ⟨g, s, ok, h⟩ => ma_one (fun σ g s H Q v rv ok rr h => ?_) ok h
  unfold fLen at h
  cases e : (asD s rv).bind lenD with
  | none => simp only [e] at h; exact h.elim
  | some n =>
    simp only [e] at h
    cases e1 : asD s rv with
    | none => rw [e1] at e; cases e
    | some d =>
      rw [e1] at e
      have e2 : lenD d = some n := e
      obtain ⟨g1, l, sb, rp⟩ := asD_ok ok (GLe.refl g) ok.sub rr e1
      have fin := kE_d h ok (.int n)
      cases rp with
      | str x =>
        simp only [lenD] at e2
        split at e2
        · rename_i hl
          cases e2
          exact .inl ⟨_, _, rfl, ⟨hl, rfl⟩, fin⟩
        · cases e2
      | tup h1 r1 => cases e2; exact .inl ⟨_, _, rfl, .inr ⟨_, sqT_mono sb h1, rfl⟩, by rw [r1.length]; exact fin⟩
      | lst h1 r1 => cases e2; exact .inl ⟨_, _, rfl, .inl ⟨_, .of (sb _ _ h1), rfl⟩, by rw [r1.length]; exact fin⟩
      | scr h1 r1 => cases e2; exact .inl ⟨_, _, rfl, .inl ⟨_, sqL_mono sb h1, rfl⟩, by rw [r1.length]; exact fin⟩
      | dic h1 r1 => cases e2; exact .inr ⟨_, _, rfl, sb _ _ h1, by rw [r1.length]; exact fin⟩
      | _ => cases e2
/-! ### int, abs, list, tuple, min, max -/
def fInt : S → RV → Res RV := fun s r => match r with
  | .d (.int i) => .ok (.d (.int i)) s
  | .d (.bl k) => .ok (.d (.int (if k then 1 else 0))) s
  | _ => .stuck
theorem me_toInt (ha : ME X W a ma) (hg : Gl X "int") (hm : X.mg "int" = none) (hs : starEach [a] X.env = (false, eval a X.env) :: starEach [] X.env := by rfl) : ME X W (.Call (.Name "int" p) [a] [] pos) (mFn1 fInt ma) := by
  refine pe_imp (pe_callTy call_int1 hg hm (by decide +kernel) (pa_cons ha pa_nil hs) (he := hs)) fun σ H Q ⟨g, s, ok, h⟩ => ma_one (fun σ g s H Q v rv ok rr h => ?_) ok h
  unfold fInt at h
  split at h
  · cases (show Rep _ _ _ _ from rr); exact .inl ⟨_, rfl, kE_d h ok (.int _)⟩
  · cases (show Rep _ _ _ _ from rr); exact .inr ⟨_, rfl, kE_d h ok (.int _)⟩
  · exact h.elim
def fAbs : S → RV → Res RV := fun s r => match asInt r with
  | some i => .ok (.d (.int (if i < 0 then -i else i))) s
  | none => .stuck
theorem me_abs (ha : ME X W a ma) (hg : Gl X "abs") (hm : X.mg "abs" = none) (hs : starEach [a] X.env = (false, eval a X.env) :: starEach [] X.env := by rfl) : ME X W (.Call (.Name "abs" p) [a] [] pos) (mFn1 fAbs ma) := by
  refine pe_imp (pe_callB call_abs hg hm (by decide +kernel) (pa_cons ha pa_nil hs) (he := hs)) fun σ H Q ⟨g, s, ok, h⟩ => ma_one (fun σ g s H Q v rv ok rr h => ?_) ok h
  unfold fAbs at h
  split at h
  · rename_i i e; rw [asInt_ok rr e]; exact ⟨_, rfl, kE_d h ok (.int _)⟩
  · exact h.elim
def fList : S → RV → Res RV := fun s r => match asItems s r with
  | some xs => .ok (.new (.lst xs)) s
  | none => .stuck
theorem asItems_ok {K : PySem.W.Frag} {σ : St} {g : G} {s : S} {H : Hp} {v : V} {r : RV} {xs : List D} (ok : Ok K g s σ H) (h : RepRV K g s H v r) (e : asItems s r = some xs) :
    ∃ a vs, v = .ref a ∧ (SqL K H a vs ∨ SqT K H a vs) ∧ RepL K g vs xs := by
  unfold asItems at e
  split at e
  · rename_i zs e3
    cases e
    obtain ⟨a, vs, rfl, h, r2⟩ := asTup_ok ok h e3
    exact ⟨a, vs, rfl, .inr h, r2⟩
  · obtain ⟨a, vs, rfl, h, r2⟩ := asLst_ok ok h e
    exact ⟨a, vs, rfl, .inl (.of h), r2⟩
theorem me_list (ha : ME X W a ma) (hg : Gl X "list") (hm : X.mg "list" = none) (hs : starEach [a] X.env = (false, eval a X.env) :: starEach [] X.env := by rfl) : ME X W (.Call (.Name "list" p) [a] [] pos) (mFn1 fList ma) := by
  refine pe_imp (pe_callTy call_list_of hg hm (by decide +kernel) (pa_cons ha pa_nil hs) (he := hs)) fun σ H Q ⟨g, s, ok, h⟩ => ma_one (fun σ g s H Q v rv ok rr h => ?_) ok h
  unfold fList at h
  split at h
  · rename_i xs e
    obtain ⟨p, vs, rfl, hq, r⟩ := asItems_ok ok rr e
    exact ⟨p, vs, rfl, hq, fun l hl => kE_new h ok hl ⟨_, upd_same, r⟩⟩
  · exact h.elim
def fTuple : S → RV → Res RV := fun s r => match asItems s r with
  | some xs => .ok (.d (.tup xs)) s
  | none => .stuck
theorem me_tuple (ha : ME X W a ma) (hg : Gl X "tuple") (hm : X.mg "tuple" = none) (hs : starEach [a] X.env = (false, eval a X.env) :: starEach [] X.env := by rfl) : ME X W (.Call (.Name "tuple" p) [a] [] pos) (mFn1 fTuple ma) := by
  refine pe_imp (pe_callTy call_tuple_of hg hm (by decide +kernel) (pa_cons ha pa_nil hs) (he := hs)) fun σ H Q ⟨g, s, ok, h⟩ => ma_one (fun σ g s H Q v rv ok rr h => ?_) ok h
  unfold fTuple at h
  split at h
  · rename_i xs e
    unfold asItems at e
    split at e
    · rename_i zs e3
      cases e
      obtain ⟨a, vs, rfl, hq, r⟩ := asTup_ok ok rr e3
      refine ⟨a, vs, rfl, .inr ⟨hq, ?_⟩⟩
      cases rv with
      | d w =>
        cases w <;> first | cases e3
        exact kE_d h ok rr
      | «at» _ => cases e3
      | new _ => cases e3
    · obtain ⟨a, vs, rfl, hq, r⟩ := asLst_ok ok rr e
      exact ⟨a, vs, rfl, .inl ⟨.of hq, fun l hl => kE_tup h ok hl r⟩⟩
  · exact h.elim
/-- min, max of two or three ints -/
def intsOf : List D → Option (List Int)
  | [] => some []
  | .int i :: r => (intsOf r).map (i :: ·)
  | _ :: _ => none
def minI : Int → Int → Int := fun i j => if j < i then j else i
def maxI : Int → Int → Int := fun i j => if j > i then j else i
def mFn2 (f : Int → Int → Int) (m : S → Res (List D)) : M := fun s => (m s).bind fun ds s1 => match ds with
  | [.int i, .int j] => .ok (.d (.int (f i j))) s1
  | _ => .stuck
def mFn3 (f : Int → Int → Int) (m : S → Res (List D)) : M := fun s => (m s).bind fun ds s1 => match ds with
  | [.int i, .int j, .int k] => .ok (.d (.int (f (f i j) k))) s1
  | _ => .stuck
theorem nuMin2_int (i j : Int) : nuMin2 (.int i) (.int j) = some (.int (minI i j)) := by
  show some (if decide (j < i) = true then V.int j else V.int i) = some (.int (if j < i then j else i))
  by_cases h : j < i <;> simp [h]
theorem nuMax2_int (i j : Int) : nuMax2 (.int i) (.int j) = some (.int (maxI i j)) := by
  show some (if decide (i < j) = true then V.int j else V.int i) = some (.int (if j > i then j else i))
  by_cases h : i < j <;> simp [h]
theorem mFn2_of {f : Int → Int → Int} {f' : V → V → Option V} {es : List Expr} {m : S → Res (List D)} (hf : ∀ i j, f' (.int i) (.int j) = some (.int (f i j))) {σ : St} {H : Hp} {Q : VK} {g : G} {s : S} (ok : Ok X.K g s σ H)
    (h : PostE X.K W σ g s H (kE X.K Q) (mFn2 f m s)) : tCB (rNuC2 f') (tMA X.K W m) σ H Q := by
  refine ⟨g, s, ok, (PostE.bind h).mono fun ds g1 s1 H1 t1 k1 o1 h1 vs rs => ?_⟩
  split at h1
  · cases rs with
    | cons r1 rs =>
      cases rs with
      | cons r2 rs =>
        cases rs
        cases r1; cases r2
        exact ⟨_, _, _, rfl, hf _ _, kE_d h1 o1 (.int _)⟩
  · exact h1.elim
theorem mFn3_of {f : Int → Int → Int} {f' : V → V → V → Option V} {es : List Expr} {m : S → Res (List D)} (hf : ∀ i j k, f' (.int i) (.int j) (.int k) = some (.int (f (f i j) k))) {σ : St} {H : Hp} {Q : VK} {g : G} {s : S} (ok : Ok X.K g s σ H)
    (h : PostE X.K W σ g s H (kE X.K Q) (mFn3 f m s)) : tCB (rNuC3 f') (tMA X.K W m) σ H Q := by
  refine ⟨g, s, ok, (PostE.bind h).mono fun ds g1 s1 H1 t1 k1 o1 h1 vs rs => ?_⟩
  split at h1
  · cases rs with
    | cons r1 rs =>
      cases rs with
      | cons r2 rs =>
        cases rs with
        | cons r3 rs =>
          cases rs
          cases r1; cases r2; cases r3
          exact ⟨_, _, _, _, rfl, hf _ _ _, kE_d h1 o1 (.int _)⟩
  · exact h1.elim
theorem nuMin3_int (i j k : Int) : nuMin3 (.int i) (.int j) (.int k) = some (.int (minI (minI i j) k)) := by
  unfold nuMin3; rw [nuMin2_int]; exact nuMin2_int _ _
theorem nuMax3_int (i j k : Int) : nuMax3 (.int i) (.int j) (.int k) = some (.int (maxI (maxI i j) k)) := by
  unfold nuMax3; rw [nuMax2_int]; exact nuMax2_int _ _
section
variable {m : S → Res (List D)}
theorem me_min2 (hc : X.calm = true) (hA : MA X W [a, b] m) (hg : Gl X "min") (hm : X.mg "min" = none) (hs : starEach [a, b] X.env = (false, eval a X.env) :: starEach [b] X.env := by rfl) (hpl : (backTo pos (starEach [b] X.env)).any (·.1) = false := by rfl) : ME X W (.Call (.Name "min" p) [a, b] [] pos) (mFn2 minI m) :=
  pe_imp (pe_callB (call_min2Nu hc) hg hm (by decide +kernel) hA (he := hs) (hpl := hpl)) fun σ H Q ⟨g, s, ok, h⟩ => mFn2_of (es := [a, b]) nuMin2_int ok h
theorem me_max2 (hc : X.calm = true) (hA : MA X W [a, b] m) (hg : Gl X "max") (hm : X.mg "max" = none) (hs : starEach [a, b] X.env = (false, eval a X.env) :: starEach [b] X.env := by rfl) (hpl : (backTo pos (starEach [b] X.env)).any (·.1) = false := by rfl) : ME X W (.Call (.Name "max" p) [a, b] [] pos) (mFn2 maxI m) :=
  pe_imp (pe_callB (call_max2Nu hc) hg hm (by decide +kernel) hA (he := hs) (hpl := hpl)) fun σ H Q ⟨g, s, ok, h⟩ => mFn2_of (es := [a, b]) nuMax2_int ok h
theorem me_min3 (hc : X.calm = true) (hA : MA X W [a, b, c] m) (hg : Gl X "min") (hm : X.mg "min" = none) (hs : starEach [a, b, c] X.env = (false, eval a X.env) :: starEach [b, c] X.env := by rfl) (hpl : (backTo pos (starEach [b, c] X.env)).any (·.1) = false := by rfl) : ME X W (.Call (.Name "min" p) [a, b, c] [] pos) (mFn3 minI m) :=
  pe_imp (pe_callB (call_min3Nu hc) hg hm (by decide +kernel) hA (he := hs) (hpl := hpl)) fun σ H Q ⟨g, s, ok, h⟩ => mFn3_of (es := [a, b, c]) nuMin3_int ok h
theorem me_max3 (hc : X.calm = true) (hA : MA X W [a, b, c] m) (hg : Gl X "max") (hm : X.mg "max" = none) (hs : starEach [a, b, c] X.env = (false, eval a X.env) :: starEach [b, c] X.env := by rfl) (hpl : (backTo pos (starEach [b, c] X.env)).any (·.1) = false := by rfl) : ME X W (.Call (.Name "max" p) [a, b, c] [] pos) (mFn3 maxI m) :=
  pe_imp (pe_callB (call_max3Nu hc) hg hm (by decide +kernel) hA (he := hs) (hpl := hpl)) fun σ H Q ⟨g, s, ok, h⟩ => mFn3_of (es := [a, b, c]) nuMax3_int ok h
end
/-! ### -a -/
def fNeg : S → RV → Res RV := fun s r => match asInt r with
  | some i => .ok (.d (.int (-i))) s
  | none => .stuck
theorem me_neg (ha : ME X W a ma) : ME X W (.UnaryOp .USub a pos) (mFn1 fNeg ma) := by
  refine pe_imp (pe_un un_neg ha) fun σ H Q ⟨g, s, ok, h⟩ => ⟨g, s, ok, (PostE.bind h).mono fun rv g1 s1 H1 t1 k1 o1 h1 v rr => ?_⟩
  unfold fNeg at h1
  split at h1
  · rename_i i e; exact ⟨i, asInt_ok rr e, kE_d h1 o1 (.int _)⟩
  · exact h1.elim
/-! ### all, any of a list of bools -/
def blsOf : List D → Option (List Bool)
  | [] => some []
  | .bl b :: r => (blsOf r).map (b :: ·)
  | _ :: _ => none
theorem blsOf_ok {K : PySem.W.Frag} {g : G} : ∀ {vs : List V} {ds : List D} {bs : List Bool}, RepL K g vs ds → blsOf ds = some bs → vs = bs.map V.bl
  | _, _, _, .nil, e => by cases e; rfl
  | _, _, bs, .cons (d := d) a b, e => by
    cases d with
    | bl k =>
      cases a
      simp only [blsOf] at e
      obtain ⟨cs, e1, rfl⟩ := Option.map_eq_some_iff.mp e
      rw [blsOf_ok b e1]; rfl
    | _ => cases e
def fAll : S → RV → Res RV := fun s r => match (asLst s r).bind blsOf with
  | some bs => .ok (.d (.bl (bs.all id))) s
  | none => .stuck
def fAny : S → RV → Res RV := fun s r => match (asLst s r).bind blsOf with
  | some bs => .ok (.d (.bl (bs.any id))) s
  | none => .stuck
theorem bls_seq {K : PySem.W.Frag} {σ : St} {g : G} {s : S} {H : Hp} {v : V} {r : RV} {bs : List Bool} (ok : Ok K g s σ H) (h : RepRV K g s H v r) (e : (asLst s r).bind blsOf = some bs) : ∃ a, v = .ref a ∧ SqL K H a (bs.map V.bl) := by
  cases e1 : asLst s r with
  | none => rw [e1] at e; cases e
  | some xs =>
    rw [e1] at e
    obtain ⟨a, vs, rfl, hq, r⟩ := asLst_ok ok h e1
    have := blsOf_ok r e
    subst this
    exact ⟨a, rfl, .of hq⟩
theorem me_all (hc : X.calm = true) (ha : ME X W a ma) (hg : Gl X "all") (hm : X.mg "all" = none) (hs : starEach [a] X.env = (false, eval a X.env) :: starEach [] X.env := by rfl) : ME X W (.Call (.Name "all" p) [a] [] pos) (mFn1 fAll ma) := by
  refine pe_imp (pe_callB (cr_all hc) hg hm (by decide +kernel) (pa_cons ha pa_nil hs) (he := hs)) fun σ H Q ⟨g, s, ok, h⟩ => ma_one (fun σ g s H Q v rv ok rr h => ?_) ok h
  unfold fAll at h
  split at h
  · rename_i bs e
    obtain ⟨p, rfl, hq⟩ := bls_seq ok rr e
    exact ⟨p, bs, rfl, hq, kE_d h ok (.bl _)⟩
  · exact h.elim
theorem me_any (hc : X.calm = true) (ha : ME X W a ma) (hg : Gl X "any") (hm : X.mg "any" = none) (hs : starEach [a] X.env = (false, eval a X.env) :: starEach [] X.env := by rfl) : ME X W (.Call (.Name "any" p) [a] [] pos) (mFn1 fAny ma) := by
  refine pe_imp (pe_callB (cr_any hc) hg hm (by decide +kernel) (pa_cons ha pa_nil hs) (he := hs)) fun σ H Q ⟨g, s, ok, h⟩ => ma_one (fun σ g s H Q v rv ok rr h => ?_) ok h
  unfold fAny at h
  split at h
  · rename_i bs e
    obtain ⟨p, rfl, hq⟩ := bls_seq ok rr e
    exact ⟨p, bs, rfl, hq, kE_d h ok (.bl _)⟩
  · exact h.elim
/-! ### isinstance with a built-in class -/
inductive Ty where
  | int | str | bool | tup | lst | dic
def Ty.name : Ty → String
  | .int => "int" | .str => "str" | .bool => "bool" | .tup => "tuple" | .lst => "list" | .dic => "dict"
def isTy : Ty → D → Bool
  | .int, .int _ => true
  | .int, .bl _ => true
  | .bool, .bl _ => true
  | .str, .str _ => true
  | .tup, .tup _ => true
  | .lst, .lst _ => true
  | .dic, .dic _ => true
  | _, _ => false
def tyD : D → Option String
  | .non => some "NoneType" | .bl _ => some "bool" | .int _ => some "int" | .str _ => some "str" | .tup _ => some "tuple" | .lst _ => some "list" | .dic _ => some "dict" | .ref _ => none | .scr _ => none
theorem isTy_kit : ∀ (T : Ty) (d : D) (t : String), tyD d = some t → kitB t T.name = some (isTy T d) := by
  intro T d t e
  cases d <;> cases e <;> cases T <;> (simp only [isTy, Ty.name]; decide +kernel)
def fIsi (T : Ty) : S → RV → Res RV := fun s r => match asD s r with
  | some d => match tyD d with
    | some _ => .ok (.d (.bl (isTy T d))) s
    | none => .stuck
  | none => .stuck
theorem tyX_of {K : PySem.W.Frag} {g : G} {H : Hp} {v : V} {d : D} {t : String} (sb : Sub g.F H) (r : Rep K g v d) (e : tyD d = some t) : TyX K H v (.type t) := by
  cases r with
  | non => cases e; exact .base .non
  | bl b => cases e; exact .base (.bl b)
  | int i => cases e; exact .base (.int i)
  | str x => cases e; exact .base (.str x)
  | tup h _ =>
    cases e
    rcases sqT_mono sb h with (h | ⟨o, h⟩) | ⟨o, _, _, hk, hc, _⟩
    · exact .base (.tup h)
    · exact .fTuple h
    · exact .kTuple hk hc
  | lst h _ => cases e; exact .base (.lst (sb _ _ h))
  | dic h _ => cases e; exact .base (.dK (sb _ _ h))
  | ref _ _ => cases e
  | scr _ _ => cases e
theorem me_isi {T : Ty} {tn : Str} {p2 : Pos} (ha : ME X W a ma) (hg : Gl X "isinstance") (hm : X.mg "isinstance" = none) (hg2 : Gl X tn) (hm2 : X.mg tn = none) (hv : bootBuiltins tn = some (.type T.name)) (hn : tn ≠ "__name__" := by decide) (hdb : (tn == ("__debug__" : Str)) = false := by decide)
    (hs : starEach [a, .Name tn p2] X.env = (false, eval a X.env) :: starEach [.Name tn p2] X.env := by rfl) (hs2 : starEach [.Name tn p2] X.env = (false, eval (.Name tn p2) X.env) :: starEach [] X.env := by rfl) (hpl : (backTo pos (starEach [.Name tn p2] X.env)).any (·.1) = false := by rfl) :
    ME X W (.Call (.Name "isinstance" p) [a, .Name tn p2] [] pos) (mFn1 (fIsi T) ma) := by
  refine pe_imp (pe_callB call_isi hg hm (by decide +kernel) (pa_cons ha (pa_cons (pe_bltn (v := .ty T.name) hg2 hm2 hv rfl hn hdb) pa_nil hs2) hs) (he := hs) (hpl := hpl)) fun σ H Q ⟨g, s, ok, h⟩ => ?_
  refine ⟨g, s, ok, (PostE.bind h).mono fun rv g1 s1 H1 t1 k1 o1 h1 v rr => ?_⟩
  unfold fIsi at h1
  split at h1
  · rename_i d e1
    split at h1
    · rename_i t e2
      obtain ⟨g2, l, sb, rp⟩ := asD_ok o1 (GLe.refl g1) o1.sub rr e1
      exact ⟨v, .ty T.name, .type t, .type T.name, isTy T d, rfl, .ty _, tyX_of sb rp e2, kit_ty (isTy_kit T d t e2), kE_d h1 o1 (.bl _)⟩
    · exact h1.elim
  · exact h1.elim
end

/-! ### the store's objects are changed -/
@[simp] def locOf : RV → Option Loc
  | .at i => some (.sl i)
  | .d (.ref n) => some (.gl n)
  | _ => none
def setCell (s : S) (l : Loc) (o : MObj) : S := match l with
  | .sl i => { s with env := s.env.set i (.own o) }
  | .gl n => { s with gl := s.gl.set n o }
section
variable {K : PySem.W.Frag} {W : WX} {σ : St} {g : G} {s : S} {H : Hp}
theorem locOf_ok {v : V} {r : RV} {l : Loc} (h : RepRV K g s H v r) (e : locOf r = some l) : v = .ref (g.adr l) := by
  cases r with
  | d x =>
    cases x <;> first | cases e
    cases (show Rep K g v _ from h); rfl
  | «at» i => cases e; exact h
  | new o => cases e
theorem cellOf_setCell {l l' : Loc} {o o' w : MObj} (h : cellOf s l = some o) (e : cellOf (setCell s l o') l' = some w) : (l' = l ∧ w = o') ∨ (l' ≠ l ∧ cellOf s l' = some w) := by
  cases l with
  | sl i =>
    have hi : i < s.env.length := by
      have h' : (match s.env[i]? with | some (.own o) => some o | _ => none) = some o := h
      split at h'
      · rename_i e; exact (List.getElem?_eq_some_iff.mp e).1
      · cases h'
    rcases cellOf_set hi e with ⟨z, z2⟩ | z
    · cases z2; exact .inl ⟨z, rfl⟩
    · exact .inr z
  | gl n =>
    have hn : n < s.gl.length := (List.getElem?_eq_some_iff.mp h).1
    cases l' with
    | sl j => exact .inr ⟨(fun z => nomatch z), e⟩
    | gl m =>
      have e' : (s.gl.set n o')[m]? = some w := e
      by_cases z : m = n
      · subst z; rw [List.getElem?_set_self hn] at e'; cases e'; exact .inl ⟨rfl, rfl⟩
      · rw [List.getElem?_set_ne (Ne.symm z)] at e'; exact .inr ⟨fun q => z (by cases q; rfl), e'⟩
/-- the object at l is changed -/
theorem Ok.change {l : Loc} {o o' : MObj} {ho : HO} (ok : Ok K g s σ H) (h : cellOf s l = some o) (r : ObjRep K g (upd H (g.adr l) ho) (g.adr l) o') :
    Ok K g (setCell s l o') σ (upd H (g.adr l) ho) ∧ Step g H g (upd H (g.adr l) ho) := by
  obtain ⟨f, q⟩ := ok.cell l o h
  have np : ¬ g.P (g.adr l) := fun p => (ok.prot _ p).2.2 ⟨l, o, h, rfl⟩
  have cs : ∀ {l' w}, cellOf (setCell s l o') l' = some w → ∃ w', cellOf s l' = some w' := fun e => by
    rcases cellOf_setCell h e with ⟨rfl, _⟩ | ⟨_, z⟩
    · exact ⟨o, h⟩
    · exact ⟨_, z⟩
  refine ⟨⟨fun b u e => ?_, fun l' w e => ?_, fun l1 l2 w1 w2 e1 e2 z => ?_, fun i x e => ?_, ?_, ?_, fun b p => ?_⟩, GLe.refl _, rfl, fun b p => upd_ne fun z => np (by rw [← z]; exact p)⟩
  · rw [upd_ne (fun z => by rw [z, f] at e; cases e)]; exact ok.sub b u e
  · rcases cellOf_setCell h e with ⟨rfl, rfl⟩ | ⟨hl, z⟩
    · exact ⟨f, r⟩
    · obtain ⟨f', r'⟩ := ok.cell l' w z
      exact ⟨f', r'.mono (GLe.refl _) (upd_ne fun q => hl (ok.inj _ _ _ _ z h q))⟩
  · obtain ⟨w1', h1⟩ := cs e1
    obtain ⟨w2', h2⟩ := cs e2
    exact ok.inj _ _ _ _ h1 h2 z
  · cases l with
    | gl n => exact ok.env i x e
    | sl j =>
      have hj : j < s.env.length := by
        have h' : (match s.env[j]? with | some (.own o) => some o | _ => none) = some o := h
        split at h'
        · rename_i e; exact (List.getElem?_eq_some_iff.mp e).1
        · cases h'
      have e' : (s.env.set j (.own o'))[i]? = some x := e
      by_cases z : i = j
      · subst z
        rw [List.getElem?_set_self hj] at e'
        cases e'
        have h' : (match s.env[i]? with | some (.own o) => some o | _ => none) = some o := h
        split at h'
        · rename_i e; have q := ok.env i _ e; exact q
        · cases h'
      · rw [List.getElem?_set_ne (Ne.symm z)] at e'
        exact ok.env i x e'
  · cases l with
    | gl n => exact ok.len
    | sl j => exact (List.length_set ..).trans ok.len
  · cases l with
    | gl n => exact ok.ng.trans (List.length_set ..).symm
    | sl j => exact ok.ng
  · obtain ⟨h1, h2, h3⟩ := ok.prot b p
    refine ⟨?_, h2, fun ⟨l', w, e, z⟩ => ?_⟩
    · rw [upd_ne (fun z => np (by rw [← z]; exact p))]; exact h1
    · obtain ⟨w', h'⟩ := cs e
      exact h3 ⟨l', w', h', z⟩
theorem setCell_keep {l : Loc} {o : MObj} {r : RV} {v : V} {ho : HO} : True := trivial
/-- the end of a method that changes its receiver -/
theorem kE_change {Q : VK} {l : Loc} {o o' : MObj} {ho : HO} {v : V} {x : D} (ok : Ok K g s σ H) (h : cellOf s l = some o) (r : ObjRep K g (upd H (g.adr l) ho) (g.adr l) o') (rx : Rep K g v x)
    (q : PostE K W σ g s H (kE K Q) (.ok (.d x) (setCell s l o'))) : Q v (upd H (g.adr l) ho) := by
  obtain ⟨o1, t1⟩ := ok.change h r
  exact q g _ t1 (SlKeep.refl _) o1 v rx
theorem cell_lst {l : Loc} {xs : List D} (ok : Ok K g s σ H) (h : cellOf s l = some (.lst xs)) : ∃ vs, H (g.adr l) = some (.lst vs) ∧ RepL K g vs xs := (ok.cell l _ h).2
end
/-- a method of a list with one argument given away -/
def mLm1 (f : List D → D → Option (D × List D)) (o a : M) : M := fun s => (o s).bind fun r s1 => match locOf r with
  | some l => (match cellOf s1 l with
    | some (.lst _) => (mLeak a s1).bind fun d s2 => (match cellOf s2 l with
      | some (.lst xs) => (match f xs d with
        | some (x, ys) => .ok (.d x) (setCell s2 l (.lst ys))
        | none => .stuck)
      | _ => .stuck)
    | _ => .stuck)
  | none => .stuck
def fAppend : List D → D → Option (D × List D) := fun xs d => if xs.length < sizeLine then some (.non, xs ++ [d]) else none
section
variable {X : Cx} {W : WX} {o a b : Expr} {mo ma mb : M} {apos cpos : Pos}
theorem mLm1_of {f : List D → D → Option (D × List D)} {r : V → List V → Hp → VK → Prop}
    (hf : ∀ (g : G) (l : Addr) (vs : List V) (xs : List D) (y : V) (d : D) (x : D) (ys : List D) (H : Hp) (Q : VK), RepL X.K g vs xs → Rep X.K g y d → H l = some (.lst vs) → f xs d = some (x, ys) →
      (∀ v ws, Rep X.K g v x → RepL X.K g ws ys → Q v (upd H l (.lst ws))) → r (.ref l) [y] H Q)
    {σ : St} {H : Hp} {Q : VK} {g : G} {s : S} (ok : Ok X.K g s σ H) (h : PostE X.K W σ g s H (kE X.K Q) (mLm1 f mo ma s)) : tBM X.K "list" r (tM X.K W mo) (tCons (tM X.K W ma) tNil) σ H Q := by
  refine ⟨g, s, ok, (PostE.bind h).mono fun rv g1 s1 H1 t1 k1 o1 h1 v rr => ?_⟩
  split at h1
  · rename_i l e1
    have hv := locOf_ok rr e1
    subst hv
    split at h1
    · rename_i zs e2
      obtain ⟨us, hu, _⟩ := cell_lst o1 e2
      refine ⟨.inl ⟨rfl, us, .of hu⟩, ?_⟩
      refine tM_leak o1 (PostE.bind h1) fun d g2 s2 H2 y t2 k2 o2 ry h2 => ?_
      have el : g2.adr l = g1.adr l := by
        cases l with
        | sl i => exact k2 i
        | gl n => exact t2.le.adr n (by rw [o1.ng]; exact gl_cell e2)
      split at h2
      · rename_i xs e3
        split at h2
        · rename_i x ys e4
          obtain ⟨vs, hvs, rvs⟩ := cell_lst o2 e3
          show r (.ref (g1.adr l)) [y] H2 Q
          rw [← el]
          exact hf g2 _ vs xs y d x ys H2 Q rvs ry hvs e4 fun v ws rv rw' => kE_change (o' := .lst ys) o2 e3 ⟨ws, upd_same, rw'⟩ rv h2
        · exact h2.elim
      · exact h2.elim
    · exact h1.elim
  · exact h1.elim
theorem me_append (ho : ME X W o mo) (ha : ME X W a ma) (hbase : attributeBase o "append" X.env (eval o X.env) = eval o X.env := by rfl)
    (hfew : ((backTo cpos (starEach [a] X.env)).all (fun x => !x.1) && (backToKw cpos (keywordEach [] X.env)).all (fun x => x.1.isSome)
      && decide ([a].length + ([] : List Keyword).length + (if ([] : List Keyword).isEmpty then 0 else 1) < 30)) = true := by rfl)
    (hline : (apos.endLine == cpos.line) = true := by rfl) (hs : starEach [a] X.env = (false, eval a X.env) :: starEach [] X.env := by rfl) :
    ME X W (.Call (.Attribute o "append" apos) [a] [] cpos) (mLm1 fAppend mo ma) := by
  have z := pe_bm PySem.F.plainAttrs_list PySem.F.slot_list_append PySem.F.type_list_append mt_append ho (pa_cons ha pa_nil hs) hbase hfew hline hs
  refine pe_imp z fun σ H Q h => ?_
  obtain ⟨g, s, ok, h⟩ := h
  refine mLm1_of (fun g l vs xs y d x ys H Q rvs ry hl e q => ?_) ok h
  clear h
  unfold fAppend at e
  split at e
  · rename_i hz
    cases e
    exact ⟨l, vs, y, rfl, rfl, hl, by rw [rvs.length]; exact hz, q _ _ .non (rvs.append (.one ry))⟩
  · cases e
end
end MI
/-! # Loops, comprehensions -/
namespace MI
open PySem L2

/-! ### what is walked -/
def Walk (K : PySem.W.Frag) (J : It) (ds : List D) (g : G) : Prop := ∀ g' s' σ' H', GLe g g' → Ok K g' s' σ' H' →
  J.stop ds.length H' ∧ ∀ i d, ds[i]? = some d → J.go i H' ∧ ∀ x H'', J.yld i H' x H'' → ∃ g'', Step g' H' g'' H'' ∧ SlKeep g' g'' ∧ Ok K g'' s' σ' H'' ∧ Rep K g'' x d
abbrev kI (K : PySem.W.Frag) (R : It → Hp → Prop) : List D → G → S → Hp → Prop := fun ds g _ H => ∀ J, Walk K J ds g → R J H
def tMI (K : PySem.W.Frag) (W : WX) (m : S → Res (List D)) : TI := fun σ H R => ∃ g s, Ok K g s σ H ∧ PostE K W σ g s H (kI K R) (m s)
def MIt (X : Cx) (W : WX) (tg iter : Expr) (m : S → Res (List D)) : Prop := PI X tg iter (tMI X.K W m)
theorem pi_imp {X : Cx} {tg e : Expr} {t t' : TI} (h : PI X tg e t) (i : ∀ σ H R, t' σ H R → t σ H R) : PI X tg e t' :=
  ⟨fun pins s σ H R I q => h.run pins s σ H R I (i σ H R q)⟩
/-- a target: what it does to the names -/
def MGk (K : PySem.W.Frag) (gt : TG) (is : List Nat) (t : D → S → Option S) : Prop :=
  ∀ g s σ H v d s', Ok K g s σ H → Rep K g v d → t d s = some s' → ∃ ws, Ok K g s' (setAll σ is ws) H ∧ ∀ Q : St → Hp → Prop, Q (setAll σ is ws) H → gt v σ H Q
structure MG (X : Cx) (tg : Expr) (gt : TG) (is : List Nat) (t : D → S → Option S) : Prop where
  pg : PG X tg gt
  ok : MGk X.K gt is t

def iSeq (m : M) : S → Res (List D) := fun s => (mLeak m s).bind fun d s1 => match d with
  | .lst xs => .ok xs s1
  | .tup xs => .ok xs s1
  | .scr xs => .ok xs s1
  | _ => .stuck
def iLst (m : M) : S → Res (List D) := fun s => (mLeak m s).bind fun d s1 => match d with
  | .lst xs => .ok xs s1
  | .scr xs => .ok xs s1
  | _ => .stuck
def iTup (m : M) : S → Res (List D) := fun s => (mLeak m s).bind fun d s1 => match d with
  | .tup xs => .ok xs s1
  | _ => .stuck
def rangeD (lo : Int) : Nat → List D
  | 0 => []
  | n + 1 => .int lo :: rangeD (lo + 1) n
theorem rangeD_len : ∀ (n : Nat) (lo : Int), (rangeD lo n).length = n
  | 0, _ => rfl
  | n + 1, lo => by rw [rangeD, List.length_cons, rangeD_len n]
theorem rangeD_get : ∀ (n : Nat) (lo : Int) (i : Nat) (d : D), (rangeD lo n)[i]? = some d → i < n ∧ d = .int (lo + i)
  | 0, _, _, _, e => by simp [rangeD] at e
  | n + 1, lo, 0, d, e => by simp [rangeD] at e; subst e; simp
  | n + 1, lo, i + 1, d, e => by
    obtain ⟨h1, h2⟩ := rangeD_get n (lo + 1) i d (by simpa [rangeD] using e)
    refine ⟨by omega, ?_⟩
    rw [h2]
    congr 1
    push_cast
    omega
theorem rng1_ex (j : Int) : ∃ r : Option (List D), r = if -(2 ^ 62) ≤ j ∧ j < 2 ^ 62 then some (rangeD 0 j.toNat) else none := ⟨_, rfl⟩
theorem rng2_ex (i j : Int) : ∃ r : Option (List D), r = if -(2 ^ 62) ≤ i ∧ i < 2 ^ 62 ∧ -(2 ^ 62) ≤ j ∧ j < 2 ^ 62 then some (rangeD i (j - i).toNat) else none := ⟨_, rfl⟩
/-- (by choice: nothing is worked out by the kernel) -/
noncomputable def rng1 (j : Int) : Option (List D) := Classical.choose (rng1_ex j)
noncomputable def rng2 (i j : Int) : Option (List D) := Classical.choose (rng2_ex i j)
theorem rng1_eq (j : Int) : rng1 j = if -(2 ^ 62) ≤ j ∧ j < 2 ^ 62 then some (rangeD 0 j.toNat) else none := Classical.choose_spec (rng1_ex j)
theorem rng2_eq (i j : Int) : rng2 i j = if -(2 ^ 62) ≤ i ∧ i < 2 ^ 62 ∧ -(2 ^ 62) ≤ j ∧ j < 2 ^ 62 then some (rangeD i (j - i).toNat) else none := Classical.choose_spec (rng2_ex i j)
noncomputable def iRange1 (m : S → Res (List D)) : S → Res (List D) := fun s => (m s).bind fun ds s1 => match ds with
  | [.int j] => (match rng1 j with
    | some l => .ok l s1
    | none => .stuck)
  | _ => .stuck
noncomputable def iRange2 (m : S → Res (List D)) : S → Res (List D) := fun s => (m s).bind fun ds s1 => match ds with
  | [.int i, .int j] => (match rng2 i j with
    | some l => .ok l s1
    | none => .stuck)
  | _ => .stuck
section
variable {K : PySem.W.Frag}
theorem walk_lst {g : G} {a : Addr} {vs : List V} {ds : List D} (h : SqL K g.F a vs) (r : RepL K g vs ds) (inj : ∀ H, Sub g.F H → ∀ xs, SqL K H a xs → xs = vs) : Walk K (Itl K a) ds g := by
  intro g' s' σ' H' l ok
  have hq : SqL K H' a vs := sqL_mono (l.F.trans ok.sub) h
  refine ⟨⟨vs, hq, by rw [r.length]; exact Nat.le_refl _⟩, fun i d e => ?_⟩
  obtain ⟨v, hv, rv⟩ := r.get e
  refine ⟨⟨vs, v, hq, hv⟩, fun x H'' ⟨e1, e2⟩ => ?_⟩
  subst e1
  have := e2 vs hq
  rw [hv] at this
  cases this
  exact ⟨g', Step.refl _ _, SlKeep.refl _, ok, rv.mono l⟩
theorem walk_lst' {g : G} {a : Addr} {vs : List V} {ds : List D} (h : SqL K g.F a vs) (r : RepL K g vs ds) : Walk K (Itl K a) ds g := by
  intro g' s' σ' H' l ok
  have hq : SqL K H' a vs := sqL_mono (l.F.trans ok.sub) h
  refine ⟨⟨vs, hq, by rw [r.length]; exact Nat.le_refl _⟩, fun i d e => ?_⟩
  obtain ⟨v, hv, rv⟩ := r.get e
  refine ⟨⟨vs, v, hq, hv⟩, fun x H'' ⟨e1, e2⟩ => ?_⟩
  subst e1
  have := e2 vs hq
  rw [hv] at this
  cases this
  exact ⟨g', Step.refl _ _, SlKeep.refl _, ok, rv.mono l⟩
theorem walk_tup {g : G} {a : Addr} {vs : List V} {ds : List D} (h : SqT K g.F a vs) (r : RepL K g vs ds) : Walk K (Itt K a) ds g := by
  intro g' s' σ' H' l ok
  have hq : SqT K H' a vs := sqT_mono (l.F.trans ok.sub) h
  refine ⟨⟨vs, hq, by rw [r.length]; exact Nat.le_refl _⟩, fun i d e => ?_⟩
  obtain ⟨v, hv, rv⟩ := r.get e
  refine ⟨⟨vs, v, hq, hv⟩, fun x H'' ⟨e1, e2⟩ => ?_⟩
  subst e1
  have := e2 vs hq
  rw [hv] at this
  cases this
  exact ⟨g', Step.refl _ _, SlKeep.refl _, ok, rv.mono l⟩
theorem walk_rng {g : G} {lo : Int} {n : Nat} : Walk K (Itr lo n) (rangeD lo n) g := by
  intro g' s' σ' H' l ok
  refine ⟨by rw [rangeD_len]; exact Nat.le_refl _, fun i d e => ?_⟩
  obtain ⟨h1, rfl⟩ := rangeD_get n lo i d e
  refine ⟨h1, fun x H'' ⟨e1, e2⟩ => ?_⟩
  subst e1 e2
  exact ⟨g', Step.refl _ _, SlKeep.refl _, ok, .int _⟩
end
section
variable {X : Cx} {W : WX} {tg e a b : Expr} {me : M} {m : S → Res (List D)} {p pos : Pos}
theorem mi_lst (he : ME X W e me) : MIt X W tg e (iLst me) := by
  refine pi_imp (pi_list he) fun σ H R h => ?_
  obtain ⟨g, s, ok, h⟩ := h
  refine tM_leak ok (PostE.bind h) fun d g1 s1 H1 v t1 k1 o1 rv h1 => ?_
  split at h1
  · cases rv with
    | lst hq r => exact ⟨_, rfl, ⟨_, .of (o1.sub _ _ hq)⟩, PostE.done h1 o1 _ (walk_lst' (.of hq) r)⟩
  · cases rv with
    | scr hq r => exact ⟨_, rfl, ⟨_, sqL_mono o1.sub hq⟩, PostE.done h1 o1 _ (walk_lst' hq r)⟩
  · exact h1.elim
theorem mi_tup (he : ME X W e me) : MIt X W tg e (iTup me) := by
  refine pi_imp (pi_tup he) fun σ H R h => ?_
  obtain ⟨g, s, ok, h⟩ := h
  refine tM_leak ok (PostE.bind h) fun d g1 s1 H1 v t1 k1 o1 rv h1 => ?_
  split at h1
  · cases rv with
    | tup hq r => exact ⟨_, rfl, ⟨_, sqT_mono o1.sub hq⟩, PostE.done h1 o1 _ (walk_tup hq r)⟩
  · exact h1.elim
/-- of two readings of what is walked the one that is not stuck -/
def orI (a b : S → Res (List D)) : S → Res (List D) := fun s => match a s with
  | .stuck => b s
  | r => r
theorem pi_or2 {t t' : TI} (h : PI X tg e t) (h' : PI X tg e t') : PI X tg e (fun σ H R => t σ H R ∨ t' σ H R) :=
  ⟨fun pins s σ H R I q => q.elim (h.run pins s σ H R I) (h'.run pins s σ H R I)⟩
theorem mi_alt {ma mb : S → Res (List D)} (ha : MIt X W tg e ma) (hb : MIt X W tg e mb) : MIt X W tg e (orI ma mb) := by
  refine pi_imp (pi_or2 ha hb) fun σ H Q h => ?_
  obtain ⟨g, s, ok, h⟩ := h
  unfold orI at h
  cases q : ma s with
  | ok a s' => simp only [q] at h; exact .inl ⟨g, s, ok, by rw [q]; exact h⟩
  | exc c p s' => simp only [q] at h; exact .inl ⟨g, s, ok, by rw [q]; exact h⟩
  | stuck => simp only [q] at h; exact .inr ⟨g, s, ok, h⟩
theorem mi_imp {m m' : S → Res (List D)} (h : MIt X W tg e m) (i : ∀ s, m' s = .stuck ∨ m' s = m s) : MIt X W tg e m' := by
  refine pi_imp h fun σ H R ⟨g, s, ok, h⟩ => ?_
  rcases i s with z | z
  · rw [z] at h; exact h.elim
  · rw [z] at h; exact ⟨g, s, ok, h⟩
theorem mi_seq (he : ME X W e me) : MIt X W tg e (iSeq me) := by
  refine mi_imp (mi_alt (mi_lst he) (mi_tup he)) fun s => ?_
  unfold iSeq orI iLst iTup
  cases h : mLeak me s with
  | ok d s1 => cases d <;> simp
  | exc c p s1 => simp
  | stuck => simp
theorem mi_range1 (ha : MA X W [a] m) (hg : Gl X "range") (hm : X.mg "range" = none) (hs : starEach [a] X.env = [(false, eval a X.env)] := by rfl) : MIt X W tg (.Call (.Name "range" p) [a] [] pos) (iRange1 m) := by
  refine pi_imp (pi_range1 hg hm ha hs) fun σ H R h => ?_
  obtain ⟨g, s, ok, h⟩ := h
  refine ⟨g, s, ok, (PostE.bind h).mono fun ds g1 s1 H1 t1 k1 o1 h1 vs rs => ?_⟩
  split at h1
  · cases rs with
    | cons r1 rs =>
      cases rs
      cases r1
      split at h1
      · rename_i hz
        rw [rng1_eq] at hz
        split at hz
        · rename_i hz2
          cases hz
          exact ⟨_, rfl, hz2.1, hz2.2, PostE.done h1 o1 _ walk_rng⟩
        · cases hz
      · exact h1.elim
  · exact h1.elim
theorem mi_range2 (ha : MA X W [a, b] m) (hg : Gl X "range") (hm : X.mg "range" = none) (hs : starEach [a, b] X.env = [(false, eval a X.env), (false, eval b X.env)] := by rfl) (hs2 : starEach [b] X.env = [(false, eval b X.env)] := by rfl) : MIt X W tg (.Call (.Name "range" p) [a, b] [] pos) (iRange2 m) := by
  refine pi_imp (pi_range2 hg hm ha hs hs2) fun σ H R h => ?_
  obtain ⟨g, s, ok, h⟩ := h
  refine ⟨g, s, ok, (PostE.bind h).mono fun ds g1 s1 H1 t1 k1 o1 h1 vs rs => ?_⟩
  split at h1
  · cases rs with
    | cons r1 rs =>
      cases rs with
      | cons r2 rs =>
        cases rs
        cases r1; cases r2
        split at h1
        · rename_i hz
          rw [rng2_eq] at hz
          split at hz
          · rename_i hz2
            cases hz
            exact ⟨_, _, rfl, hz2, PostE.done h1 o1 _ walk_rng⟩
          · cases hz
        · exact h1.elim
  · exact h1.elim
/-! ### targets -/
def tgName (i : Nat) : D → S → Option S := fun d s => assign i (.d d) s
def tgTup (is : List Nat) : D → S → Option S := fun d s => match d with
  | .tup ds => assignAll is (ds.map .d) s
  | _ => none
theorem mgk_name {K : PySem.W.Frag} {i : Nat} : MGk K (gName i) [i] (tgName i) := fun g s σ H v d s' ok r e => by
  simp only [tgName, assign] at e
  split at e
  · rename_i hl
    cases e
    exact ⟨[v], ok.setVal r hl, fun Q q => q⟩
  · cases e
theorem mg_name {i : Nat} {x : Str} (hN : X.N.Nodup) (hi : X.N[i]? = some x := by rfl) (hx : L2.Loc X.env.scope x := by first | exact Or.inl rfl | exact Or.inr rfl) (hf : X.fn x = true ∨ X.env.scope.names.lookup x = some .local := by first | exact .inl rfl | exact .inr rfl) :
    MG X (.Name x pos) (gName i) [i] (tgName i) := ⟨pg_name hN hi hx hf, mgk_name⟩
theorem assignAll_d {K : PySem.W.Frag} {g : G} {H : Hp} : ∀ {is : List Nat} {vs : List V} {ds : List D} {σ : St} {s s' : S}, Ok K g s σ H → RepL K g vs ds → assignAll is (ds.map .d) s = some s' → Ok K g s' (setAll σ is vs) H
  | [], _, _, σ, s, s', ok, .nil, e => by cases e; exact ok
  | [], _, _, σ, s, s', ok, .cons _ _, e => by cases e
  | i :: is, _, _, σ, s, s', ok, .nil, e => by cases e
  | i :: is, _, _, σ, s, s', ok, .cons (d := d) a b, e => by
    simp only [List.map_cons, assignAll, assign] at e
    split at e
    · rename_i s1 e1
      split at e1
      · rename_i hl
        cases e1
        have z := assignAll_d (ok.setVal a hl) b e
        exact z
      · cases e1
    · cases e
theorem mgk_tup {K : PySem.W.Frag} {is : List Nat} : MGk K (gTup K is.length (gNames is)) is (tgTup is) := fun g s σ H v d s' ok r e => by
  unfold tgTup at e
  split at e
  · rename_i ds
    cases r with
    | tup hq rl =>
      refine ⟨_, assignAll_d ok rl e, fun Q q => ?_⟩
      have hl := (assignAll_len e).trans ((List.length_map _).trans rl.length.symm)
      exact ⟨_, _, rfl, sqT_mono ok.sub hq, hl.symm, gNames_set hl q⟩
  · cases e
theorem mg_tup {ts : List Expr} {is : List Nat} {k : Nat} (hc : X.calm = true) (h : PGs X ts (gNames is)) (hn : (assignEach ts X.env).length = is.length := by rfl) (hst : (assignEach ts X.env).findIdx? (·.1) = none := by rfl) :
    MG X (.Tuple ts k pos) (gTup X.K is.length (gNames is)) is (tgTup is) := ⟨pg_tup hc h hn hst, mgk_tup⟩
end

/-! ### for -/
def forGo (t : D → S → Option S) (body : S → Res Out) : List D → S → Res Out
  | [], s => .ok .nx s
  | d :: ds, s => match t d s with
    | none => .stuck
    | some s1 => match body s1 with
      | .ok .nx s2 => forGo t body ds s2
      | .ok .ct s2 => forGo t body ds s2
      | .ok .bk s2 => .ok .nx s2
      | r => r
def mFor (it : S → Res (List D)) (t : D → S → Option S) (body : S → Res Out) : S → Res Out := fun s => (it s).bind fun ds s1 => forGo t body ds s1
section
variable {X : Cx} {W : WX} {tg iter : Expr} {body : List Stmt} {it : S → Res (List D)} {gt : TG} {is : List Nat} {t : D → S → Option S} {mb : S → Res Out} {pos : Pos}
theorem ms_for (hp : PassesOwn (model X.prog X.w) X.A X.env X.xe) (hc : X.calm = true) (hi : MIt X W tg iter it) (hg : MG X tg gt is t) (hb : MSs X W body mb)
    (hs : ∀ x, foldedSetIterable iter X.env x = pure x := by intro _; rfl) : MS X W (.For tg iter body [] pos) (mFor it t mb) := by
  refine ps_imp (ps_for hp hc hi hg.pg hb hs) fun D σ H h => ?_
  obtain ⟨g, s, ok, h⟩ := h
  refine ⟨g, s, ok, (PostS.bind h).mono fun ds g1 s1 H1 t1 k1 o1 h1 J hJ => ?_⟩
  refine ⟨fun i m σ' H' => m = ds.length - i ∧ i ≤ ds.length ∧ ∃ g' s', Step g1 H1 g' H' ∧ Ok X.K g' s' σ' H' ∧ PostS X.K W g' s' H' D (forGo t mb (ds.drop i) s'), ⟨ds.length, by simp, Nat.zero_le _, g1, s1, Step.refl _ _, o1, by simpa using h1⟩, ?_⟩
  rintro i m σ' H' ⟨rfl, hi, g', s', t', o', h'⟩
  obtain ⟨st, go⟩ := hJ g' s' σ' H' t'.le o'
  by_cases hlt : i < ds.length
  · obtain ⟨d, hd⟩ : ∃ d, ds[i]? = some d := ⟨_, List.getElem?_eq_getElem hlt⟩
    have hdrop : ds.drop i = d :: ds.drop (i + 1) := by
      rw [List.drop_eq_getElem_cons hlt]
      congr 1
      rw [List.getElem?_eq_getElem hlt] at hd
      exact Option.some.inj hd
    obtain ⟨go1, yl⟩ := go i d hd
    refine .inr ⟨go1, fun σ3 H3 => ∃ g3 s3, Step g1 H1 g3 H3 ∧ Ok X.K g3 s3 σ3 H3 ∧ PostS X.K W g3 s3 H3 D (forGo t mb (ds.drop (i + 1)) s3), fun σ3 H3 ⟨g3, s3, t3, o3, h3⟩ => ⟨ds.length - (i + 1), by omega, rfl, hlt, g3, s3, t3, o3, h3⟩, fun x H2 y => ?_⟩
    obtain ⟨g2, t2, k2, o2, r2⟩ := yl x H2 y
    have h2 := PostS.after (s' := s') h' t2
    rw [hdrop] at h2
    unfold forGo at h2
    cases e : t d s' with
    | none => simp only [e] at h2; exact h2.elim
    | some s2 =>
      simp only [e] at h2
      obtain ⟨ws, o2', hQ⟩ := hg.ok g2 s' σ' H2 x d s2 o2 r2 e
      refine hQ _ ⟨g2, s2, o2', ?_⟩
      have tt := t'.trans t2
      cases e2 : mb s2 with
      | ok o s3 =>
        simp only [e2] at h2
        cases o with
        | nx => exact fun σ3 g3 H3 t3 o3 => ⟨g3, s3, tt.trans t3, o3, PostS.after h2 t3⟩
        | ct => exact fun σ3 g3 H3 t3 o3 => ⟨g3, s3, tt.trans t3, o3, PostS.after h2 t3⟩
        | bk => exact fun σ3 g3 H3 t3 o3 => h2 σ3 g3 H3 t3 o3
        | rt d => exact fun v σ3 g3 H3 t3 o3 rv => h2 v σ3 g3 H3 t3 o3 rv
      | exc c p s3 => simp only [e2] at h2; exact h2
      | stuck => simp only [e2] at h2; exact h2
  · have e : i = ds.length := by omega
    subst e
    refine .inl ⟨st, ?_⟩
    rw [List.drop_length] at h'
    exact PostS.nx h' o'
end

/-! ### while -/
def whileGo (c : S → Res Bool) (b : S → Res Out) : Nat → S → Res Out
  | 0, _ => .stuck
  | n + 1, s => (c s).bind fun k s1 => if k = true then (match b s1 with
    | .ok .nx s2 => whileGo c b n s2
    | .ok .ct s2 => whileGo c b n s2
    | .ok .bk s2 => .ok .nx s2
    | r => r) else .ok .nx s1
open Classical in
noncomputable def mWhile (c : S → Res Bool) (b : S → Res Out) : S → Res Out := fun s => if h : ∃ n, whileGo c b n s ≠ .stuck then whileGo c b (Classical.choose h) s else .stuck
theorem whileGo_mono {c : S → Res Bool} {b : S → Res Out} : ∀ (n k : Nat) (s : S), whileGo c b n s ≠ .stuck → whileGo c b (n + k) s = whileGo c b n s
  | 0, _, _, h => absurd rfl h
  | n + 1, k, s, h => by
    have e : n + 1 + k = (n + k) + 1 := by omega
    rw [e]
    unfold whileGo at h ⊢
    cases hc : c s with
    | ok q s1 =>
      rw [hc] at h
      simp only [Res.bind_ok] at h ⊢
      by_cases hq : q = true
      · rw [if_pos hq] at h ⊢
        rw [if_pos hq]
        cases hb : b s1 with
        | ok o s2 =>
          rw [hb] at h
          cases o with
          | nx => exact whileGo_mono n k s2 h
          | ct => exact whileGo_mono n k s2 h
          | bk => rfl
          | rt d => rfl
        | exc _ _ _ => rfl
        | stuck => rfl
      · rw [if_neg hq, if_neg hq]
    | exc _ _ _ => rfl
    | stuck => rfl
theorem mWhile_eq {c : S → Res Bool} {b : S → Res Out} {n : Nat} {s : S} {r : Res Out} (h : whileGo c b n s = r) (hr : r ≠ .stuck) : mWhile c b s = r := by
  have hx : ∃ n, whileGo c b n s ≠ .stuck := ⟨n, by rw [h]; exact hr⟩
  unfold mWhile
  rw [dif_pos hx]
  have hy := Classical.choose_spec hx
  rcases Nat.le_total n (Classical.choose hx) with z | z
  · obtain ⟨k, hk⟩ := Nat.exists_eq_add_of_le z
    rw [hk, whileGo_mono n k s (by rw [h]; exact hr)]; exact h
  · obtain ⟨k, hk⟩ := Nat.exists_eq_add_of_le z
    rw [← whileGo_mono _ k s hy, ← hk]; exact h
section
variable {X : Cx} {W : WX} {c : Expr} {body : List Stmt} {mc : S → Res Bool} {mb : S → Res Out} {pos : Pos}
theorem ms_while (hp : PassesOwn (model X.prog X.w) X.A X.env X.xe) (hc : MT X W c mc) (hb : MSs X W body mb) : MS X W (.While c body [] pos) (mWhile mc mb) := by
  refine ps_imp (ps_while hp hc hb) fun D σ H h => ?_
  obtain ⟨g, s, ok, h⟩ := h
  unfold mWhile at h
  split at h
  · rename_i hx
    refine ⟨fun m σ H => ∃ g s, Ok X.K g s σ H ∧ PostS X.K W g s H D (whileGo mc mb m s), ⟨_, g, s, ok, h⟩, ?_⟩
    rintro m σ H ⟨g, s, ok, h⟩
    cases m with
    | zero => exact h.elim
    | succ m =>
      unfold whileGo at h
      refine ⟨g, s, ok, (PostS.bind h).mono fun k g1 s1 H1 t1 k1 o1 h1 => ?_⟩
      cases k with
      | true =>
        rw [if_pos rfl] at h1
        show (if true = true then _ else _)
        rw [if_pos rfl]
        refine ⟨fun σ3 H3 => ∃ g3 s3, Ok X.K g3 s3 σ3 H3 ∧ PostS X.K W g3 s3 H3 D (whileGo mc mb m s3), fun σ3 H3 z => ⟨m, Nat.lt_succ_self _, z⟩, g1, s1, o1, ?_⟩
        cases e2 : mb s1 with
        | ok o s3 =>
          simp only [e2] at h1
          cases o with
          | nx => exact fun σ3 g3 H3 t3 o3 => ⟨g3, s3, o3, PostS.after h1 t3⟩
          | ct => exact fun σ3 g3 H3 t3 o3 => ⟨g3, s3, o3, PostS.after h1 t3⟩
          | bk => exact fun σ3 g3 H3 t3 o3 => h1 σ3 g3 H3 t3 o3
          | rt d => exact fun v σ3 g3 H3 t3 o3 rv => h1 v σ3 g3 H3 t3 o3 rv
        | exc c p s3 => simp only [e2] at h1; exact h1
        | stuck => simp only [e2] at h1; exact h1
      | false =>
        rw [if_neg (by decide)] at h1
        show (if false = true then _ else _)
        rw [if_neg (by decide)]
        exact PostS.nx h1 o1
  · exact h.elim
end
end MI
/-! # List comprehensions -/
namespace MI
open PySem L2

def wipeE (env : List Slot) : List Nat → List Slot
  | [] => env
  | v :: vs => (wipeE env vs).set v .none
def restE (e1 e2 : List Slot) : List Nat → List Slot
  | [] => e2
  | v :: vs => (restE e1 e2 vs).set v ((e1[v]?).getD .none)
theorem wipeE_len (env : List Slot) : ∀ vs, (wipeE env vs).length = env.length
  | [] => rfl
  | v :: vs => by rw [wipeE, List.length_set, wipeE_len env vs]
theorem restE_len (e1 e2 : List Slot) : ∀ vs, (restE e1 e2 vs).length = e2.length
  | [] => rfl
  | v :: vs => by rw [restE, List.length_set, restE_len e1 e2 vs]
theorem wipeE_get (env : List Slot) : ∀ (vs : List Nat) (i : Nat), (wipeE env vs)[i]? = if i ∈ vs then (env[i]?).map (fun _ => Slot.none) else env[i]?
  | [], i => by simp [wipeE]
  | v :: vs, i => by
    rw [wipeE]
    by_cases h : i = v
    · subst h
      simp only [List.mem_cons, true_or, if_true]
      by_cases hl : i < env.length
      · rw [List.getElem?_set_self (by rw [wipeE_len]; exact hl), List.getElem?_eq_getElem hl]; rfl
      · rw [List.getElem?_eq_none (by rw [List.length_set, wipeE_len]; omega), List.getElem?_eq_none (by omega)]; rfl
    · rw [List.getElem?_set_ne (Ne.symm h), wipeE_get env vs i]
      simp [h]
theorem restE_get (e1 e2 : List Slot) (hl : e1.length = e2.length) : ∀ (vs : List Nat) (i : Nat), (restE e1 e2 vs)[i]? = if i ∈ vs then e1[i]? else e2[i]?
  | [], i => by simp [restE]
  | v :: vs, i => by
    rw [restE]
    by_cases h : i = v
    · subst h
      simp only [List.mem_cons, true_or, if_true]
      by_cases hi : i < e1.length
      · rw [List.getElem?_set_self (by rw [restE_len]; omega), List.getElem?_eq_getElem hi]; rfl
      · rw [List.getElem?_eq_none (by rw [List.length_set, restE_len]; omega), List.getElem?_eq_none (by omega)]
    · rw [List.getElem?_set_ne (Ne.symm h), restE_get e1 e2 hl vs i]
      simp [h]
theorem wipe_get (σ : St) : ∀ (vs : List Nat) (i : Nat), (wipe σ vs)[i]? = if i ∈ vs then (σ[i]?).map (fun _ => none) else σ[i]?
  | [], i => by simp [wipe]
  | v :: vs, i => by
    rw [wipe]
    by_cases h : i = v
    · subst h
      simp only [List.mem_cons, true_or, if_true]
      by_cases hl : i < σ.length
      · rw [List.getElem?_set_self (by rw [wipe_length]; exact hl), List.getElem?_eq_getElem hl]; rfl
      · rw [List.getElem?_eq_none (by rw [List.length_set, wipe_length]; omega), List.getElem?_eq_none (by omega)]; rfl
    · rw [List.getElem?_set_ne (Ne.symm h), wipe_get σ vs i]
      simp [h]
theorem setAll_len : ∀ (is : List Nat) (vs : List V) (σ : St), (setAll σ is vs).length = σ.length
  | [], _, _ => by simp [setAll]
  | _ :: _, [], _ => by simp [setAll]
  | i :: is, v :: vs, σ => by rw [setAll, setAll_len is vs, List.length_set]
theorem setAll_get : ∀ (is : List Nat) (vs : List V) (σ : St) (i : Nat), i ∉ is → (setAll σ is vs)[i]? = σ[i]?
  | [], _, _, _, _ => by simp [setAll]
  | _ :: _, [], _, _, _ => by simp [setAll]
  | j :: is, v :: vs, σ, i, h => by
    rw [setAll, setAll_get is vs _ i (fun z => h (List.mem_cons_of_mem _ z)), List.getElem?_set_ne (fun z => h (by rw [z]; exact List.mem_cons_self))]
theorem wipe_setAll {σ : St} {is vs : List Nat} {ws : List V} (h : ∀ i ∈ is, i ∈ vs) : wipe (setAll (wipe σ vs) is ws) vs = wipe σ vs := by
  apply List.ext_getElem?
  intro i
  rw [wipe_get, wipe_get]
  by_cases hi : i ∈ vs
  · rw [if_pos hi, if_pos hi]
    have hl : (setAll (wipe σ vs) is ws).length = σ.length := by rw [setAll_len, wipe_length]
    by_cases hl2 : i < σ.length
    · rw [List.getElem?_eq_getElem (by rw [hl]; exact hl2), List.getElem?_eq_getElem hl2]; rfl
    · rw [List.getElem?_eq_none (by rw [hl]; omega), List.getElem?_eq_none (by omega)]
  · rw [if_neg hi, if_neg hi, setAll_get _ _ _ _ (fun z => hi (h i z)), wipe_get, if_neg hi]
theorem wipe_wipe {σ : St} {vs : List Nat} : wipe (wipe σ vs) vs = wipe σ vs := by
  have := wipe_setAll (σ := σ) (is := []) (vs := vs) (ws := []) (fun _ h => nomatch h)
  simpa [setAll] using this
def noOwn (env : List Slot) (vs : List Nat) : Bool := vs.all fun v => match env[v]? with
  | some (.own _) => false
  | _ => true
def wipeS (s : S) (vs : List Nat) : S := { s with env := wipeE s.env vs }
section
variable {K : PySem.W.Frag} {σ : St} {g : G} {s : S} {H : Hp}
theorem cellOf_wipe {vs : List Nat} {l : Loc} {o : MObj} (e : cellOf (wipeS s vs) l = some o) : cellOf s l = some o ∧ ∀ i, l = .sl i → i ∉ vs := by
  cases l with
  | gl n => exact ⟨e, fun i z => nomatch z⟩
  | sl j =>
    have e' : (match (wipeE s.env vs)[j]? with | some (.own o) => some o | _ => none) = some o := e
    rw [wipeE_get] at e'
    by_cases h : j ∈ vs
    · rw [if_pos h] at e'
      cases q : s.env[j]? with
      | none => rw [q] at e'; cases e'
      | some w => rw [q] at e'; cases e'
    · rw [if_neg h] at e'
      exact ⟨e', fun i z => by cases z; exact h⟩
theorem Ok.wipe {vs : List Nat} (ok : Ok K g s σ H) : Ok K g (wipeS s vs) (wipe σ vs) H := by
  refine ⟨ok.sub, fun l o e => ok.cell l o (cellOf_wipe e).1, fun l l' o o' e e' z => ok.inj l l' o o' (cellOf_wipe e).1 (cellOf_wipe e').1 z, fun i x e => ?_, ?_, ok.ng, fun a p => ?_⟩
  · have e' : (wipeE s.env vs)[i]? = some x := e
    rw [wipeE_get] at e'
    by_cases h : i ∈ vs
    · rw [if_pos h] at e'
      cases q : s.env[i]? with
      | none => rw [q] at e'; cases e'
      | some w => rw [q] at e'; cases e'; trivial
    · rw [if_neg h] at e'
      have := ok.env i x e'
      cases x with
      | none => trivial
      | val d => obtain ⟨v, q, r⟩ := this; exact ⟨v, by rw [wipe_get, if_neg h]; exact q, r⟩
      | own o => show (L2.wipe σ vs)[i]? = _; rw [wipe_get, if_neg h]; exact this
  · show (wipeE s.env vs).length = (L2.wipe σ vs).length
    rw [wipeE_len, wipe_length, ok.len]
  · obtain ⟨h1, h2, h3⟩ := ok.prot a p
    exact ⟨h1, h2, fun ⟨l, o, e, z⟩ => h3 ⟨l, o, (cellOf_wipe e).1, z⟩⟩
/-- back from the block: the block's own names are as they were -/
theorem Ok.rest {vs : List Nat} {g' : G} {s' : S} {H' : Hp} (ok : Ok K g s σ H) (n : noOwn s.env vs = true) (ok' : Ok K g' s' (L2.wipe σ vs) H') (l : GLe g g') :
    Ok K g' { s' with env := restE s.env s'.env vs } σ H' := by
  have hl : s.env.length = s'.env.length := by
    have h1 := ok.len
    have h2 := ok'.len
    rw [wipe_length] at h2
    omega
  have no : ∀ i ∈ vs, ∀ o, s.env[i]? ≠ some (.own o) := fun i hi o e => by
    have := List.all_eq_true.mp n i hi
    rw [e] at this
    cases this
  have cs : ∀ {l o}, cellOf { s' with env := restE s.env s'.env vs } l = some o → cellOf s' l = some o := by
    intro l o e
    cases l with
    | gl n => exact e
    | sl j =>
      have e' : (match (restE s.env s'.env vs)[j]? with | some (.own o) => some o | _ => none) = some o := e
      rw [restE_get _ _ hl] at e'
      by_cases h : j ∈ vs
      · rw [if_pos h] at e'
        split at e'
        · rename_i w q
          exact absurd q (no j h _)
        · cases e'
      · rw [if_neg h] at e'
        exact e'
  refine ⟨ok'.sub, fun l o e => ok'.cell l o (cs e), fun l l' o o' e e' z => ok'.inj l l' o o' (cs e) (cs e') z, fun i x e => ?_, ?_, ok'.ng, fun a p => ?_⟩
  · have e' : (restE s.env s'.env vs)[i]? = some x := e
    rw [restE_get _ _ hl] at e'
    by_cases h : i ∈ vs
    · rw [if_pos h] at e'
      have := ok.env i x e'
      cases x with
      | none => trivial
      | val d => obtain ⟨v, q, r⟩ := this; exact ⟨v, q, r.mono l⟩
      | own o => exact absurd e' (no i h o)
    · rw [if_neg h] at e'
      have := ok'.env i x e'
      cases x with
      | none => trivial
      | val d => obtain ⟨v, q, r⟩ := this; exact ⟨v, by rw [wipe_get, if_neg h] at q; exact q, r⟩
      | own o =>
        have q : (L2.wipe σ vs)[i]? = _ := this
        rw [wipe_get, if_neg h] at q
        exact q
  · show (restE s.env s'.env vs).length = σ.length
    rw [restE_len, ← hl]; exact ok.len
  · obtain ⟨h1, h2, h3⟩ := ok'.prot a p
    exact ⟨h1, h2, fun ⟨l, o, e, z⟩ => h3 ⟨l, o, cs e, z⟩⟩
end
def compGo (vs : List Nat) (t : D → S → Option S) (c : S → Res Bool) (e : S → Res D) : List D → List D → S → Option (List D × S)
  | [], acc, s => some (acc, s)
  | d :: ds, acc, s => match t d s with
    | none => none
    | some s1 => match c s1 with
      | .ok b s2 => if b = true then (match e s2 with
          | .ok y s3 => if acc.length < sizeLine then compGo vs t c e ds (acc ++ [y]) (wipeS s3 vs) else none
          | _ => none)
        else compGo vs t c e ds acc (wipeS s2 vs)
      | _ => none
def mComp (vs : List Nat) (it : S → Res (List D)) (t : D → S → Option S) (c : S → Res Bool) (e : M) : M := fun s => (it s).bind fun ds s1 => if noOwn s1.env vs = true then (match compGo vs t c (mLeak e) ds [] (wipeS s1 vs) with
  | some (acc, s2) => .ok (.new (.lst acc)) { s2 with env := restE s1.env s2.env vs }
  | none => .stuck) else .stuck
def mYes : S → Res Bool := fun s => .ok true s
abbrev W0 : WX := fun _ _ _ _ => False
abbrev Blk (X : Cx) (scope : Scope) (P : Cx → Prop) : Prop := ∀ (s : Shared) (H : Hp) (C : Addr) (cl : List (Str × Addr)) (fp : List Addr), P (X.blk s H scope (PySem.compEnvC scope cl C X.env) fp)
def MTs (X : Cx) (W : WX) (ifs : List Expr) (m : S → Res Bool) : Prop := PTs X ifs (tMT X.K W m)
theorem mts_nil {X : Cx} {W : WX} : MTs X W [] mYes := ⟨fun pins s σ H Q I ⟨g, t, ok, h⟩ => pts_nil.run pins s σ H Q I (PostE.done (W := W) h ok)⟩
theorem mts_one {X : Cx} {W : WX} {c : Expr} {m : S → Res Bool} (h : MT X W c m) : MTs X W [c] m := pts_one h
section
variable {X : Cx} {W : WX}
theorem tLc_of {vs is : List Nat} {it : S → Res (List D)} {gt : TG} {t : D → S → Option S} {mc : S → Res Bool} {me : M} {σ : St} {H : Hp} {Q : VK} {g : G} {s : S}
    (hgt : MGk X.K gt is t) (hsub : ∀ i ∈ is, i ∈ vs)
    (ok : Ok X.K g s σ H) (h : PostE X.K W σ g s H (kE X.K Q) (mComp vs it t mc me s)) :
    tLc (tMI X.K W it) gt (tMT X.K W0 mc) (tM X.K W0 me) vs σ H Q := by
  refine ⟨g, s, ok, (PostE.bind h).mono fun ds g1 s1 H1 t1 k1 o1 h1 J hJ D hD => ?_⟩
  split at h1
  · rename_i hno
    split at h1
    · rename_i acc0 s0 hgo
      -- the new list at D is held
      have ok2 := o1.grow (o := .lst []) hD
      have hold := ok2.hold (a := D) (u := .lst []) upd_same (o1.fnone hD) (o1.lnone hD)
      refine ⟨fun i m H' => m = ds.length - i ∧ i ≤ ds.length ∧ ∃ g' s' acc avs, Step (g1.hold D) (upd H1 D (.lst [])) (g'.wP (g1.hold D).P) (upd H' D (.lst [])) ∧ SlKeep g1 g' ∧ g'.P = (g1.hold D).P ∧ Ok X.K g' s' (wipe σ vs) H' ∧ H' D = some (.lst avs) ∧ RepL X.K g' avs acc ∧
        compGo vs t mc (mLeak me) (ds.drop i) acc s' = some (acc0, s0), ⟨ds.length, by simp, Nat.zero_le _, g1.hold D, wipeS s1 vs, [], [], ?_, SlKeep.refl _, rfl, hold.wipe, upd_same, .nil, by simpa using hgo⟩, ?_⟩
      · refine ⟨⟨Sub.refl _, Nat.le_refl _, fun _ _ => rfl⟩, rfl, fun b _ => ?_⟩
        rw [upd_upd]
      rintro i m H' ⟨rfl, hi, g', s', acc, avs, st, sk, pp, o', hD', racc, hg'⟩
      have lg : GLe g1 g' := ⟨st.le.F, st.le.ng, st.le.adr⟩
      have pD : g'.P D := by rw [pp]; exact .inr rfl
      obtain ⟨stp, go⟩ := hJ g' s' _ H' lg o'
      by_cases hlt : i < ds.length
      · obtain ⟨d, hd⟩ : ∃ d, ds[i]? = some d := ⟨_, List.getElem?_eq_getElem hlt⟩
        have hdrop : ds.drop i = d :: ds.drop (i + 1) := by
          rw [List.drop_eq_getElem_cons hlt]
          congr 1
          rw [List.getElem?_eq_getElem hlt] at hd
          exact Option.some.inj hd
        obtain ⟨go1, yl⟩ := go i d hd
        refine .inr ⟨go1, fun H3 => ∃ g3 s3 acc avs, Step (g1.hold D) (upd H1 D (.lst [])) (g3.wP (g1.hold D).P) (upd H3 D (.lst [])) ∧ SlKeep g1 g3 ∧ g3.P = (g1.hold D).P ∧ Ok X.K g3 s3 (wipe σ vs) H3 ∧ H3 D = some (.lst avs) ∧ RepL X.K g3 avs acc ∧
          compGo vs t mc (mLeak me) (ds.drop (i + 1)) acc s3 = some (acc0, s0), fun H3 z => ⟨ds.length - (i + 1), by omega, rfl, hlt, z⟩, fun x H2 y => ?_⟩
        obtain ⟨g2, t2, k2, o2, r2⟩ := yl x H2 y
        rw [hdrop] at hg'
        unfold compGo at hg'
        cases e : t d s' with
        | none => simp only [e] at hg'; cases hg'
        | some s2 =>
          simp only [e] at hg'
          obtain ⟨ws, o2', hQ⟩ := hgt g2 s' (wipe σ vs) H2 x d s2 o2 r2 e
          refine hQ _ ⟨wipe_setAll hsub, g2, s2, o2', ?_⟩
          -- what has been kept so far
          have acc2 : ∀ {g3 : G} {H3 : Hp}, Step g2 H2 g3 H3 → SlKeep g2 g3 → g3.P = (g1.hold D).P ∧ Step (g1.hold D) (upd H1 D (.lst [])) (g3.wP (g1.hold D).P) (upd H3 D (.lst [])) ∧ SlKeep g1 g3 ∧ H3 D = some (.lst avs) ∧ RepL X.K g3 avs acc := by
            intro g3 H3 t3 k3
            have tt := t2.trans t3
            have p3 : g3.P = (g1.hold D).P := tt.P.trans pp
            refine ⟨p3, ⟨⟨st.le.F.trans tt.le.F, Nat.le_trans st.le.ng tt.le.ng, fun n hn => (tt.le.adr n (Nat.lt_of_lt_of_le hn st.le.ng)).trans (st.le.adr n hn)⟩, rfl, fun b hb => ?_⟩, fun j => (k3 j).trans ((k2 j).trans (sk j)), (tt.keep D pD).trans hD', racc.mono tt.le⟩
            by_cases hbD : b = D
            · rw [hbD, upd_same, upd_same]
            · have q := st.keep b hb
              rw [upd_ne hbD, upd_ne hbD] at q ⊢
              exact (tt.keep b (by rw [pp]; exact hb)).trans q
          cases e2 : mc s2 with
          | ok b s3 =>
            simp only [e2] at hg'
            intro g3 H3 t3 k3 o3
            show (if b = true then _ else _)
            cases b with
            | true =>
              rw [if_pos rfl] at hg'
              rw [if_pos rfl]
              unfold mLeak at hg'
              refine ⟨g3, s3, o3, ?_⟩
              cases e3 : me s3 with
              | ok r s4 =>
                simp only [e3, Res.bind_ok] at hg'
                intro g4 H4 t4 k4 o4 v rv
                cases e4 : leak r s4 with
                | none => simp only [e4] at hg'; cases hg'
                | some pr =>
                  obtain ⟨y, s5⟩ := pr
                  simp only [e4] at hg'
                  obtain ⟨g5, t5, k5, o5, ry⟩ := leak_ok o4 rv e4
                  obtain ⟨p5, st5, sk5, hD5, ra5⟩ := acc2 ((t3.trans t4).trans t5) ((k3.trans k4).trans k5)
                  by_cases hz : acc.length < sizeLine
                  · rw [if_pos hz] at hg'
                    have pD5 : g5.P D := by rw [p5]; exact .inr rfl
                    obtain ⟨_, f5, l5⟩ := o5.prot D pD5
                    refine ⟨avs, hD5, by rw [ra5.length]; exact hz, g5, wipeS s5 vs, acc ++ [y], avs ++ [v], ?_, sk5, p5, ?_, upd_same, ra5.append (.one ry), hg'⟩
                    · rw [upd_upd]; exact st5
                    · -- the list at D grows: it is nobody's in the store
                      have ow := o5.wipe (vs := vs)
                      rw [show L2.wipe (setAll (L2.wipe σ vs) is ws) vs = L2.wipe σ vs from wipe_setAll hsub] at ow
                      refine ⟨fun b u e => ?_, fun l o e => ?_, ow.inj, ow.env, ow.len, ow.ng, fun b p => ?_⟩
                      · rw [upd_ne (fun z => by rw [z, f5] at e; cases e)]; exact ow.sub b u e
                      · obtain ⟨f, r⟩ := ow.cell l o e
                        exact ⟨f, r.mono (GLe.refl _) (upd_ne fun z => l5 ⟨l, o, (cellOf_wipe e).1, z⟩)⟩
                      · obtain ⟨h1, h2, h3⟩ := ow.prot b p
                        refine ⟨?_, h2, h3⟩
                        by_cases z : b = D
                        · exact ⟨_, by rw [z]; exact upd_same⟩
                        · rw [upd_ne z]; exact h1
                  · rw [if_neg hz] at hg'; cases hg'
              | exc c p s4 => simp only [e3, Res.bind_exc] at hg'; cases hg'
              | stuck => simp only [e3, Res.bind_stuck] at hg'; cases hg'
            | false =>
              rw [if_neg (by decide)] at hg'
              rw [if_neg (by decide)]
              obtain ⟨p5, st5, sk5, hD5, ra5⟩ := acc2 t3 k3
              have ow := o3.wipe (vs := vs)
              rw [show L2.wipe (setAll (L2.wipe σ vs) is ws) vs = L2.wipe σ vs from wipe_setAll hsub] at ow
              exact ⟨g3, wipeS s3 vs, acc, avs, st5, sk5, p5, ow, hD5, ra5, hg'⟩
          | exc c p s3 => simp only [e2] at hg'; cases hg'
          | stuck => simp only [e2] at hg'; cases hg'
      · have e : i = ds.length := by omega
        subst e
        refine .inl ⟨stp, ?_⟩
        rw [List.drop_length] at hg'
        cases hg'
        -- back: D is let go
        have ob := o'.unhold (g0 := g1) (a := D) pp
        obtain ⟨_, fD, lD⟩ := o'.prot D pD
        have npD : ¬ g1.P D := o1.pnone hD
        have obr := o1.rest hno ob (show GLe g1 (g'.wP g1.P) from ⟨lg.F, lg.ng, lg.adr⟩)
        refine h1 (g'.wP g1.P) H' ⟨⟨lg.F, lg.ng, lg.adr⟩, rfl, fun b hb => ?_⟩ sk obr (.ref D) ⟨D, rfl, fD, npD, fun ⟨l, o, e, z⟩ => lD ?_, avs, hD', racc.mono wP_le⟩
        · have hbD : b ≠ D := fun z => npD (z ▸ hb)
          have q := st.keep b (.inl hb)
          rw [upd_ne hbD, upd_ne hbD] at q
          exact q
        · -- a cell of the restored state is one of the block's
          cases l with
          | gl n => exact ⟨.gl n, o, e, z⟩
          | sl j =>
            have hl : s1.env.length = s0.env.length := by
              have h1 := o1.len
              have h2 := o'.len
              rw [wipe_length] at h2
              omega
            have e' : (match (restE s1.env s0.env vs)[j]? with | some (.own o) => some o | _ => none) = some o := e
            rw [restE_get _ _ hl] at e'
            by_cases hj : j ∈ vs
            · rw [if_pos hj] at e'
              split at e'
              · rename_i w q
                have := List.all_eq_true.mp hno j hj
                rw [q] at this
                cases this
              · cases e'
            · rw [if_neg hj] at e'
              exact ⟨.sl j, o, e', z⟩
    · exact h1.elim
  · exact h1.elim
variable {elt tg iter : Expr} {ifs : List Expr} {scope : Scope} {own : List (Str × Nat)} {pos : Pos} {it : S → Res (List D)} {gt : TG} {is : List Nat} {t : D → S → Option S} {mc : S → Res Bool} {me : M}
theorem me_comp (hc : X.calm = true) (hN : X.N.Nodup) (hi : MIt X W tg iter it) (ok : BlkOk X.N X.env.scope scope own) (hgk : MGk X.K gt is t) (hsub : ∀ i ∈ is, i ∈ own.map (·.2))
    (hg : Blk X scope fun Y => PG Y tg gt) (ht : Blk X scope fun Y => MTs Y W0 ifs mc) (he : Blk X scope fun Y => ME Y W0 elt me) (hs : ∀ x, foldedSetIterable iter X.env x = pure x := by intro _; rfl) :
    ME X W (.ListComp elt [⟨tg, iter, ifs, 0⟩] scope pos) (mComp (own.map (·.2)) it t mc me) := by
  have z := pe_lc (pos := pos) (tt := tMT X.K W0 mc) (te := tM X.K W0 me) hc hN hi ok (fun s H C cl fp => hg s H C cl fp) (fun s H C cl fp => ht s H C cl fp) (fun s H C cl fp => he s H C cl fp) hs
  refine pe_imp z fun σ H Q h => ?_
  obtain ⟨g, s, o, h⟩ := h
  exact tLc_of hgk hsub o h
/-- name = [..] on one line, the name a local -/
theorem ms_setComp {i : Nat} {y : Str} {py spos : Pos} (hc : X.calm = true) (hN : X.N.Nodup) (hi : MIt X W tg iter it) (ok : BlkOk X.N X.env.scope scope own) (hgk : MGk X.K gt is t) (hsub : ∀ i ∈ is, i ∈ own.map (·.2))
    (hg : Blk X scope fun Y => PG Y tg gt) (ht : Blk X scope fun Y => MTs Y W0 ifs mc) (he : Blk X scope fun Y => ME Y W0 elt me) (hy : X.N[i]? = some y := by rfl) (hyl : X.env.scope.names.lookup y = some .local := by rfl)
    (hsw : swapsWith (.ListComp elt [⟨tg, iter, ifs, 0⟩] scope pos) (some (.Name y py)) spos.line X.env = pure true := by exact sw_true rfl rfl rfl (by decide +kernel)) (hs : ∀ x, foldedSetIterable iter X.env x = pure x := by intro _; rfl) :
    MS X W (.Assign [.Name y py] (.ListComp elt [⟨tg, iter, ifs, 0⟩] scope pos) spos) (mSet i (mComp (own.map (·.2)) it t mc me)) := by
  have z := ps_setLc (tt := tMT X.K W0 mc) (te := tM X.K W0 me) hc hN hy hyl hsw hi ok (fun s H C cl fp => hg s H C cl fp) (fun s H C cl fp => ht s H C cl fp) (fun s H C cl fp => he s H C cl fp) hs
  refine ps_imp z fun D σ H h => ?_
  obtain ⟨g, s, o, h⟩ := h
  refine tLc_of hgk hsub o ((PostS.bind h).mono fun r g1 s1 H1 t1 k1 o1 h1 v rv => ?_)
  show D.nx (σ.set i (some v)) H1
  split at h1
  · rename_i s2 e2
    obtain ⟨g2, t2, o2⟩ := assign_ok o1 rv e2
    exact h1 _ g2 H1 t2 o2
  · exact h1.elim
end
end MI
/-! # Functions by name -/
namespace MI
open PySem PySem.Spec PyProof.Rows L2

/-- the name x stands for a def that keeps fm's promise -/
structure FnM (P : Program) (w : World) (K : PySem.W.Frag) (mg : Str → Option Value) (base : Heap) (k : Nat) (x : Str) (ps : List Str) (fm : Fm) : Prop where
  ex : ∃ f fd, FnOk P w K mg base (L2.CX P w) k f fd ps (spM K fm) ∧ mg x = some (.ref f) ∧ PySem.W.keepIn K (.ref f) = true ∧ Binds K fd ps [] ∧
    (∃ oc od osl, K.lookup f = some ⟨oc, od, .func fd, osl⟩) ∧ ∀ (s : Shared) (us : List Value), us.length = ps.length → BindsTo s fd ⟨us, []⟩ (ps.zip us)
/-- every parameter is given by place -/
def BindOk (x : Str) (args : Arguments) (body : List Stmt) (scope : Scope) (ps : List Str) : Prop :=
  ∀ (kV doc pm : Value) (an : Option Addr) (cdv ct : Value) (us : List Value), us.length = ps.length → bindArgs (PySem.W.fnOf x x args body scope .none kV doc pm an cdv ct) ⟨us, []⟩ = pure (ps.zip us)
/-- what the head says of a def by name -/
def DefM (K : PySem.W.Frag) (mg : Str → Option Value) (x : Str) (args : Arguments) (body : List Stmt) (scope : Scope) : Prop :=
  ∃ f fd, FunD K x x args body scope [] [] f fd ∧ mg x = some (.ref f)
section
variable {X : Cx} {W : WX} {e : Expr} {es : List Expr} {m : S → Res (List D)} {pos p : Pos} {k j : Nat} {ps : List Str} {fm : Fm} {x : Str}
theorem me_fn (F : FnM X.prog X.w X.K X.mg X.base k x ps fm) (hr : Room j X.A) (hj : k ≤ j) (hg : Gl X x) (tk : Takes X W)
    (ha : MA X W (e :: es) m) (hdb : (x == ("__debug__" : Str)) = false := by decide) (he : starEach (e :: es) X.env = (false, eval e X.env) :: starEach es X.env := by rfl) (hpl : (backTo pos (starEach es X.env)).any (·.1) = false := by rfl) :
    ME X W (.Call (.Name x p) (e :: es) [] pos) (mCall fm m) := by
  obtain ⟨f, fd, F1, hm, hk, hb, _⟩ := F.ex
  exact me_call F1 (hr.mono hj) hg hm hk hb tk ha hdb he hpl
end
abbrev wx (E : XK) : WX := fun cls d _ H => E cls d H
theorem takesC {P : Program} {w : World} {K : PySem.W.Frag} {mg : Str → Option Value} {base : Heap} {N : List Str} {qual : Str} {scope : Scope} {f : Addr} {cd : Value} {A : Around} {outer : List Env} {s : Shared} {H : Hp} {E : XK} :
    Takes (cxOf (L2.CX P w) P w K mg base N qual scope f cd A outer s H E) (wx E) := L2.takes_of rfl rfl rfl rfl
theorem takesB {X : Cx} : Takes X W0 := L2.takes0
theorem owns {P : Program} {w : World} {K : PySem.W.Frag} {mg : Str → Option Value} {base : Heap} {N : List Str} {qual : Str} {scope : Scope} {f : Addr} {cd : Value} {A : Around} {outer : List Env} {s : Shared} {H : Hp} {E : XK} {CX : CXT} :
    PassesOwn (model P w) (cxOf CX P w K mg base N qual scope f cd A outer s H E).A (cxOf CX P w K mg base N qual scope f cd A outer s H E).env (cxOf CX P w K mg base N qual scope f cd A outer s H E).xe :=
  passes_of (X := cxOf CX P w K mg base N qual scope f cd A outer s H E) (K := fun e s'' => CX outer H s E e s'') (E₁ := fun e' s'' => CX outer H s E e' s'') rfl
theorem mss_stuck {X : Cx} {W : WX} {st : List Stmt} : MSs X W st (fun _ => .stuck) := pss_imp pss_never fun D σ H ⟨g, s, ok, h⟩ => h
section
variable {P : Program} {w : World} {K : PySem.W.Frag} {mg : Str → Option Value} {base : Heap} {x : Str} {args : Arguments} {body : List Stmt} {scope : Scope} {N ps : List Str} {k : Nat} {m : S → Res Out}
theorem fnM (F : DefM K mg x args body scope) (Sc : FnScope N ps scope) (hN : ps.length ≤ N.length)
    (hB : BindOk x args body scope ps)
    (hbody : ∀ (f : Addr) (cdv : Value) (A : Around) (outer : List Env) (s : Shared) (H : Hp) (E : XK), Room k (A.deeper (envOfC x scope s.heap.objs.size f cdv)) →
      MSs (cxOf (L2.CX P w) P w K mg base N x scope f cdv A outer s H E) (wx E) body m) :
    FnM P w K mg base (k + 1) x ps (mDef ps.length N.length m) := by
  obtain ⟨f, fd, F1, hm⟩ := F
  refine ⟨f, fd, fn_mirror F1 Sc hN (fun cdv A outer s H E hr => hbody f cdv A outer s H E hr), hm, F1.kp, F1.bindsN hB, ?_, F1.bindsA hB⟩
  obtain ⟨oc, od, dV, kV, doc, pm, an, cdv, ct, osl, e, lk, _⟩ := F1.ex
  exact ⟨oc, od, osl, e ▸ lk⟩
end

/-! ### names of the module -/
section
variable {X : Cx} {W : WX} {x : Str} {pos : Pos}
def GInt (mg : Str → Option Value) (x : Str) (i : Int) : Prop := ∃ t, mg x = some (.int i t)
def GStr (mg : Str → Option Value) (x : Str) (z : Str) : Prop := ∃ t, mg x = some (.str z t)
/-- a tuple of the module, for good -/
def GTup (K : PySem.W.Frag) (mg : Str → Option Value) (x : Str) (vs : List V) : Prop := ∃ a, mg x = some (.ref a) ∧ ∀ H, SqT K H a vs
theorem me_gint {i : Int} (h : GInt X.mg x i) (hg : Gl X x) (hd : (x == ("__debug__" : Str)) = false := by decide) : ME X W (.Name x pos) (mC (.int i)) := by
  obtain ⟨t, e⟩ := h
  exact me_glob hg e (v := .int i) ⟨t, rfl⟩ (fun g => .int i) hd
theorem me_gstr {z : Str} (h : GStr X.mg x z) (hg : Gl X x) (hd : (x == ("__debug__" : Str)) = false := by decide) : ME X W (.Name x pos) (mC (.str z)) := by
  obtain ⟨t, e⟩ := h
  exact me_glob hg e (v := .str z) ⟨t, rfl⟩ (fun g => .str z) hd
theorem me_gtup {vs : List V} {ds : List D} (h : GTup X.K X.mg x vs) (r : ∀ g, RepL X.K g vs ds) (hg : Gl X x) (hd : (x == ("__debug__" : Str)) = false := by decide) : ME X W (.Name x pos) (mC (.tup ds)) := by
  obtain ⟨a, e, q⟩ := h
  exact me_glob hg e (v := .ref a) rfl (fun g => .tup (q g.F) (r g)) hd
end
/-- a block's own names, seen by a test -/
def blkB (N : List Str) (sc scope : Scope) (own : List (Str × Nat)) : Bool :=
  decide (scope.kind = .function) && (decide (∀ y ∈ scope.names, scope.names.lookup y.1 = some y.2) && (decide (∀ p ∈ own, N[p.2]? = some p.1) &&
    (decide (∀ y ∈ scope.names, y.2 = .free → sc.names.lookup y.1 = some .cell ∨ sc.names.lookup y.1 = some .free) &&
      decide (∀ y ∈ scope.names, y.2 = .local ∨ y.2 = .cell → y.1 ∈ own.map (·.1) ∨ y.1 ∉ N))))
theorem blk_of {N : List Str} {sc scope : Scope} {own : List (Str × Nat)} (h : blkB N sc scope own = true) : BlkOk N sc scope own := by
  unfold blkB at h
  simp only [Bool.and_eq_true, decide_eq_true_eq] at h
  obtain ⟨h1, h2, h3, h4, h5⟩ := h
  exact ⟨h1, h2, h3, h4, h5⟩
def scB (N P : List Str) (sc : Scope) : Bool :=
  decide (sc.kind = .function) && (!sc.isCoroutine && (!sc.isGenerator && (decide N.Nodup && (decide (N.take P.length = P) && (decide (∀ x ∈ P, sc.names.lookup x = some .local ∨ sc.names.lookup x = some .cell) && decide (∀ y ∈ sc.names, y.2 ≠ .free))))))
theorem sc_of {N P : List Str} {sc : Scope} (h : scB N P sc = true) : FnScope N P sc := by
  unfold scB at h
  simp only [Bool.and_eq_true, decide_eq_true_eq, Bool.not_eq_true'] at h
  obtain ⟨h1, h2, h3, h4, h5, h6, h7⟩ := h
  exact ⟨h1, h2, h3, h4, h5, h6, h7⟩
end MI
/-! # Repetition, stores at a place, shared objects -/
namespace MI
open PySem PySem.Spec PyProof.Rows L2

/-! ### a tuple once, or an empty one: the same object -/
theorem tuple_mul_same (l : Addr) (items : Array Value) (n : Nat) (dd : Option Addr) (sl : Array (Option Value)) (x : Int) (u : Tok) (c0 : (decide (x < -(2 ^ 63)) || decide (x ≥ 2 ^ 63)) = false) (c1 : (items.isEmpty || x == 1) = true) :
    Meets (Builtin.«tuple.__mul__» ⟨[.ref l, .int x u], []⟩) (fun _ R s => s.heap.get? l = some { cls := .type "tuple", dict := dd, data := .seq items n, slots := sl } ∧ R (.ok (.ret (Value.ref l))) s) :=
  .of_wp fun prog w A R s h => by
    obtain ⟨hp, g, d, tk, os⟩ := s
    obtain ⟨hl, h⟩ := h
    have f1 := AutoSeq1.idx_int
    wp_walk using wpAny_loadPart' hl
    repeat (first
      | (refine wpAny_ite_false (decide_eq_false (by rw [c0]; exact Bool.false_ne_true)) ?_; wp_walk using wpAny_loadPart' hl)
      | (refine wpAny_ite_true (decide_eq_true c1) ?_; wp_walk using wpAny_loadPart' hl))
    all_goals exact ⟨_, rfl, h⟩
def rSameT (K : PySem.W.Frag) : R2 := fun x y H Q => ∃ l k xs, x = .ref l ∧ y = .int k ∧ SqT K H l xs ∧ (xs = [] ∨ k = 1) ∧ -(2 ^ 63) ≤ k ∧ k < 2 ^ 63 ∧ Q x H

section
variable {X : Cx} {W : WX}
theorem op_sameT : OpR X (binaryOp .Mult) (rSameT X.K) := by
  intro pins s σ H x y v u Q I rx ry h
  obtain ⟨l, k, xs, rfl, rfl, hT, hone, h1, h2, q⟩ := h
  cases rx
  obtain ⟨t, rfl⟩ := ry
  obtain ⟨its, r, ⟨⟨cls, dd, data, sl⟩, ho, hc, n, hd⟩, hs⟩ := I.tuple hT
  simp only at hc hd
  subst hc hd
  have same : (its.toArray.isEmpty || k == 1) = true := by
    rcases hone with z | z
    · subst z
      cases r
      rfl
    · subst z
      simp
  have inr : (decide (k < -(2 ^ 63)) || decide (k ≥ 2 ^ 63)) = false := by
    have a : ¬ k < -(2 ^ 63) := by omega
    have b : ¬ k ≥ 2 ^ 63 := by omega
    simp only [decide_eq_false a, decide_eq_false b, Bool.or_self]
  refine wpAny_binaryOp_repeat_ref (T := "tuple") (U := "int") (by decide) ⟨_, ho, rfl⟩ (fun s' => typeIs_int s' k t) noFill_tuple_mul F.fills_int_mul F.slot_int_rmul repeat_tuple F.slot_int_index.lookup ?_
  refine call_meets F.slot_int_rmul (typeIs_int s k t) F.entry_int_rmul (F.args_int_rmul_2 _ _) (int_rmul_tuple k t l its.toArray n dd sl) ⟨ho, rfl, ⟨_, ho, rfl⟩, ?_⟩
  exact call_meets F.slot_tuple_mul ⟨_, ho, rfl⟩ F.entry_tuple_mul (F.args_tuple_mul_2 _ _) (tuple_mul_same l its.toArray n dd sl k t inr same) ⟨ho, ⟨.ref l, H, I, rfl, q⟩⟩
/-- a text repeated -/
def repS (x : Str) (n : Int) : Str := if n < 1 then Str.empty else if (n == 1 || x.length == 0) = true then x else ⟨(List.replicate n.toNat x.cps).foldl (· ++ ·) #[]⟩
def rRepS : R2 := fun x y H Q => ∃ (z : Str) (k : Int), x = .str z ∧ y = .int k ∧ -1000 ≤ k ∧ k ≤ 1000 ∧ z.length ≤ 1000 ∧ Q (.str (repS z k)) H
theorem op_repS : OpR X (binaryOp .Mult) rRepS := by
  intro pins s σ H x y v u Q I rx ry h
  obtain ⟨z, k, rfl, rfl, h1, h2, hz, q⟩ := h
  obtain ⟨t, rfl⟩ := rx
  obtain ⟨t', rfl⟩ := ry
  refine PySem.P.mul_str ?_ (fun c1 _ => ?_) (fun c1 _ => ?_) ?_
  · have a : ¬ k < -(2 ^ 63) := by omega
    have b : ¬ k ≥ 2 ^ 63 := by omega
    simp only [decide_eq_false a, decide_eq_false b, Bool.or_self]
  · have k1 : 1 ≤ k := by omega
    have a1 : (1000 : Int) ≤ (2 ^ 63 - 1) / k := by
      rw [Int.le_ediv_iff_mul_le (by omega)]
      omega
    omega
  · have a1 : z.length * k.toNat ≤ 1000 * 1000 := Nat.mul_le_mul hz (by omega)
    have : ¬ (z.length * k.toNat > sizeLine) := by rw [sizeLine_eq]; omega
    exact decide_eq_false this
  · unfold repS at q
    split
    · rename_i c
      rw [if_pos c] at q
      exact ⟨by rw [sizeLine_eq]; decide, .str Str.empty, H, I.tok _, ⟨_, rfl⟩, q⟩
    · rename_i c
      rw [if_neg c] at q
      split
      · rename_i c2
        rw [if_pos c2] at q
        exact ⟨.str z, H, I, ⟨_, rfl⟩, q⟩
      · rename_i c2
        rw [if_neg c2] at q
        refine ⟨?_, .str _, H, I.tok _, ⟨_, rfl⟩, q⟩
        have key : ∀ (m : Nat) (acc : Array Nat), ((List.replicate m z.cps).foldl (· ++ ·) acc).size = acc.size + m * z.cps.size := by
          intro m
          induction m with
          | zero => intro acc; simp
          | succ m ih => intro acc; rw [List.replicate_succ, List.foldl_cons, ih, Array.size_append, Nat.succ_mul]; omega
        show ((List.replicate k.toNat z.cps).foldl (· ++ ·) #[]).size ≤ sizeLine
        rw [key]
        have a1 : k.toNat * z.cps.size ≤ 1000 * 1000 := Nat.mul_le_mul (by omega) hz
        rw [sizeLine_eq]
        simp
        omega
def opMulT : S → RV → RV → Res RV := fun s a b => match asTup a, asInt b with
  | some xs, some k => if (xs.isEmpty || k == 1) = true then (if -(2 ^ 63) ≤ k ∧ k < 2 ^ 63 then .ok (.d (.tup xs)) s else .stuck)
    else if 2 ≤ k ∧ k ≤ 1000 ∧ xs.length ≤ 1000 then .ok (.d (.tup (List.replicate k.toNat xs).flatten)) s else .stuck
  | _, _ => .stuck
def opMulS : S → RV → RV → Res RV := fun s a b => match asStr a, asInt b with
  | some x, some k => if -1000 ≤ k ∧ k ≤ 1000 ∧ x.length ≤ 1000 then .ok (.d (.str (repS x k))) s else .stuck
  | _, _ => .stuck
def opMulL : S → RV → RV → Res RV := fun s a b => match asLst s a, asInt b with
  | some xs, some k => if -(2 ^ 63) ≤ k ∧ k < 2 ^ 63 ∧ xs.length * k.toNat ≤ sizeLine then .ok (.new (.lst (List.replicate k.toNat xs).flatten)) s else .stuck
  | _, _ => .stuck
theorem RepL.rep {K : PySem.W.Frag} {g : G} {vs : List V} {ds : List D} (r : RepL K g vs ds) : ∀ k : Nat, RepL K g (List.replicate k vs).flatten (List.replicate k ds).flatten
  | 0 => .nil
  | k + 1 => by
    rw [List.replicate_succ, List.replicate_succ, List.flatten_cons, List.flatten_cons]
    exact r.append (r.rep k)
theorem os_mulT : OpS X W (fun x y H Q => rSameT X.K x y H Q ∨ rRepT X.K x y H Q) opMulT := by
  intro σ g s H Q x y ra rb ok rx ry nn q
  unfold opMulT at q
  split at q
  · rename_i xs k e1 e2
    obtain ⟨a, vs, rfl, h1, r1⟩ := asTup_ok ok rx e1
    have e := asInt_ok ry e2
    subst e
    split at q
    · rename_i c
      split at q
      · rename_i hk
        refine .inl ⟨a, k, vs, rfl, rfl, h1, ?_, hk.1, hk.2, kE_d q ok ?_⟩
        · simp only [Bool.or_eq_true, List.isEmpty_iff, beq_iff_eq] at c
          rcases c with c | c
          · exact .inl ((RepL.nil_iff r1).mpr c)
          · exact .inr c
        · cases ra with
          | d w =>
            cases w <;> first | cases e1
            exact rx
          | «at» _ => cases e1
          | new _ => cases e1
      · exact q.elim
    · rename_i c
      split at q
      · rename_i hk
        refine .inr ⟨a, k, vs, rfl, rfl, h1, fun z => ?_, hk.1, hk.2.1, by rw [r1.length]; exact hk.2.2, fun p hp => kE_tup q ok hp (r1.rep _)⟩
        have := (RepL.nil_iff r1).mp z
        subst this
        exact c rfl
      · exact q.elim
  · exact q.elim
theorem os_mulS : OpS X W rRepS opMulS := by
  intro σ g s H Q x y ra rb ok rx ry nn q
  unfold opMulS at q
  split at q
  · rename_i z k e1 e2
    split at q
    · rename_i h
      exact ⟨z, k, asStr_ok rx e1, asInt_ok ry e2, h.1, h.2.1, h.2.2, kE_d q ok (.str _)⟩
    · exact q.elim
  · exact q.elim
theorem os_mulL : OpS X W rRep opMulL := by
  intro σ g s H Q x y ra rb ok rx ry nn q
  unfold opMulL at q
  split at q
  · rename_i xs k e1 e2
    obtain ⟨a, vs, rfl, h1, r1⟩ := asLst_ok ok rx e1
    have e := asInt_ok ry e2
    subst e
    split at q
    · rename_i h
      exact ⟨a, k, vs, rfl, rfl, h1, h.1, h.2.1, by rw [r1.length]; exact h.2.2, fun p hp => kE_new q ok hp ⟨_, upd_same, r1.rep _⟩⟩
    · exact q.elim
  · exact q.elim
def opMul := orF opMulI (orF opMulT (orF opMulS opMulL))
variable {a b o i e : Expr} {ma mb mo mi me : M} {pos pos' apos cpos : Pos}
theorem me_mul (ha : ME X W a ma) (hb : ME X W b mb) : ME X W (.BinOp a .Mult b pos) (mBin opMul ma mb) :=
  me_bin (op_mul2.or ((op_sameT.or op_repT).or (op_repS.or op_rep))) (os_mulI.or (os_mulT.or (os_mulS.or os_mulL))) ha hb
end

/-! ### a new object comes into the shared store -/
def mAlloc (m : M) : M := fun s => (m s).bind fun r s1 => match r with
  | .new o => .ok (.d (.ref s1.gl.length)) { s1 with gl := s1.gl ++ [o] }
  | _ => .stuck
section
variable {K : PySem.W.Frag} {W : WX} {σ : L2.St} {g : G} {s : S} {H : Hp}
def G.add (g : G) (a : Addr) : G := { g with adr := fun l => if l = .gl g.ng then a else g.adr l, ng := g.ng + 1 }
theorem add_le {a : Addr} : GLe g (g.add a) := ⟨Sub.refl _, Nat.le_succ _, fun n h => if_neg fun z => by cases z; exact Nat.lt_irrefl _ h⟩
theorem Ok.add {a : Addr} {o : MObj} (ok : Ok K g s σ H) (n : g.F a = none) (np : ¬ g.P a) (nl : ¬ Live g s a) (q : ObjRep K g H a o) :
    Ok K (g.add a) { s with gl := s.gl ++ [o] } σ H := by
  have cs : ∀ l w, cellOf { s with gl := s.gl ++ [o] } l = some w → (l = .gl g.ng ∧ w = o) ∨ (l ≠ .gl g.ng ∧ cellOf s l = some w) := by
    intro l w e
    cases l with
    | sl i => exact .inr ⟨(fun z => nomatch z), e⟩
    | gl m =>
      have e' : (s.gl ++ [o])[m]? = some w := e
      by_cases h : m < s.gl.length
      · rw [List.getElem?_append_left h] at e'
        exact .inr ⟨fun z => by cases z; have := ok.ng; omega, e'⟩
      · rw [List.getElem?_append_right (by omega)] at e'
        have hm : m - s.gl.length = 0 := by
          cases hq : m - s.gl.length with
          | zero => rfl
          | succ z => rw [hq] at e'; cases e'
        rw [hm] at e'
        cases e'
        exact .inl ⟨by rw [ok.ng]; exact congrArg Loc.gl (by omega), rfl⟩
  have a0 : (g.add a).adr (.gl g.ng) = a := if_pos rfl
  have a1 : ∀ l, l ≠ .gl g.ng → (g.add a).adr l = g.adr l := fun l h => if_neg h
  have ne : ∀ l w, cellOf s l = some w → g.adr l ≠ a := fun l w h z => nl ⟨l, w, h, z⟩
  refine ⟨ok.sub, fun l w e => ?_, fun l l' w w' e e' z => ?_, fun i x e => (ok.env i x e).mono add_le (fun i => a1 _ (fun z => nomatch z)), ok.len, ?_, fun b p => ?_⟩
  · rcases cs l w e with ⟨rfl, rfl⟩ | ⟨h, e⟩
    · rw [a0]; exact ⟨n, q.mono add_le rfl⟩
    · rw [a1 l h]
      obtain ⟨f, r⟩ := ok.cell l w e
      exact ⟨f, r.mono add_le rfl⟩
  · rcases cs l w e with ⟨e1, _⟩ | ⟨h, en⟩
    · rcases cs l' w' e' with ⟨e2, _⟩ | ⟨h', en'⟩
      · exact e1.trans e2.symm
      · rw [e1, a0, a1 l' h'] at z
        exact absurd z.symm (ne l' w' en')
    · rcases cs l' w' e' with ⟨e2, _⟩ | ⟨h', en'⟩
      · rw [e2, a0, a1 l h] at z
        exact absurd z (ne l w en)
      · rw [a1 l h, a1 l' h'] at z
        exact ok.inj l l' w w' en en' z
  · show g.ng + 1 = (s.gl ++ [o]).length
    rw [List.length_append, ok.ng]; rfl
  · obtain ⟨h1, h2, h3⟩ := ok.prot b p
    refine ⟨h1, h2, fun ⟨l, w, e, z⟩ => ?_⟩
    rcases cs l w e with ⟨rfl, rfl⟩ | ⟨h, e⟩
    · rw [a0] at z
      exact np (z ▸ p)
    · rw [a1 l h] at z
      exact h3 ⟨l, w, e, z⟩
end
section
variable {X : Cx} {W : WX} {a b o i e : Expr} {ma mb mo mi me : M} {pos pos' apos cpos : Pos}
theorem me_alloc (h : ME X W e me) : ME X W e (mAlloc me) := by
  refine pe_imp h fun σ H Q ⟨g, s, ok, h⟩ => ?_
  refine ⟨g, s, ok, (PostE.bind h).mono fun r g1 s1 H1 t1 k1 o1 h1 v rv => ?_⟩
  cases r with
  | d x => exact h1.elim
  | «at» j => exact h1.elim
  | new w =>
    obtain ⟨p, rfl, n, np, nl, q⟩ := rv
    have o2 := o1.add n np nl q
    refine h1 (g1.add p) H1 ⟨add_le, rfl, fun _ _ => rfl⟩ (fun j => show (if Loc.sl j = Loc.gl g1.ng then p else g1.adr (.sl j)) = g1.adr (.sl j) from if_neg (by intro z; cases z)) o2 _ ?_
    have := Rep.ref (K := X.K) (g := g1.add p) g1.ng (Nat.lt_succ_self _)
    rw [show (g1.add p).adr (.gl g1.ng) = p from if_pos rfl] at this
    rw [← o1.ng]
    exact this

/-! ### xs.pop(i) -/
def fPopAt : List D → D → Option (D × List D) := fun xs d => match d with
  | .int i => if -(2 ^ 63) ≤ i ∧ i < 2 ^ 63 then (match seqIndex? i xs.length with
    | some k => (match xs[k]? with
      | some y => some (y, xs.eraseIdx k)
      | none => none)
    | none => none) else none
  | _ => none
theorem me_popAt (ho : ME X W o mo) (ha : ME X W a ma) (hbase : attributeBase o "pop" X.env (eval o X.env) = eval o X.env := by rfl)
    (hfew : ((backTo cpos (starEach [a] X.env)).all (fun x => !x.1) && (backToKw cpos (keywordEach [] X.env)).all (fun x => x.1.isSome)
      && decide ([a].length + ([] : List Keyword).length + (if ([] : List Keyword).isEmpty then 0 else 1) < 30)) = true := by rfl)
    (hline : (apos.endLine == cpos.line) = true := by rfl) (hs : starEach [a] X.env = (false, eval a X.env) :: starEach [] X.env := by rfl) :
    ME X W (.Call (.Attribute o "pop" apos) [a] [] cpos) (mLm1 fPopAt mo ma) := by
  have z := pe_bm PySem.F.plainAttrs_list PySem.F.slot_list_pop PySem.F.type_list_pop mt_popAt ho (pa_cons ha pa_nil hs) hbase hfew hline hs
  refine pe_imp z fun σ H Q h => ?_
  obtain ⟨g, s, ok, h⟩ := h
  refine mLm1_of (fun g l vs xs y d x ys H Q rvs ry hl e q => ?_) ok h
  clear h
  obtain ⟨i, rfl⟩ : ∃ i, d = .int i := by
    cases d <;> first | exact ⟨_, rfl⟩ | (exact absurd e (by simp [fPopAt]))
  cases ry
  have e : (if -(2 ^ 63) ≤ i ∧ i < 2 ^ 63 then (match seqIndex? i xs.length with
    | some k => (match xs[k]? with
      | some y => some (y, xs.eraseIdx k)
      | none => none)
    | none => none) else none) = some (x, ys) := e
  split at e
  · rename_i hi
    split at e
    · rename_i k ek
      split at e
      · rename_i w ew
        cases e
        obtain ⟨u, hu, ru⟩ := rvs.get ew
        exact ⟨l, vs, i, k, u, rfl, rfl, hl, hi.1, hi.2, by rw [rvs.length]; exact ek, hu, q u _ ru (rvs.eraseIdx k)⟩
      · cases e
    · cases e
  · cases e

/-! ### o[i] = e -/
def mSetIx (v o i : M) : S → Res Out := fun s => (mLeak v s).bind fun d s1 => (o s1).bind fun r s2 => match locOf r with
  | some l => (match cellOf s2 l with
    | some _ => (mLeak i s2).bind fun k s3 => (match cellOf s3 l, k with
      | some (.lst xs), .int k => (match ixN xs.length k with
        | some j => .ok .nx (setCell s3 l (.lst (xs.set j d)))
        | none => .stuck)
      | _, _ => .stuck)
    | _ => .stuck)
  | none => .stuck
theorem loc_held {K : PySem.W.Frag} {σ : L2.St} {g g' : G} {s : S} {H H' : Hp} {l : Loc} {o : MObj} (ok : Ok K g s σ H) (e : cellOf s l = some o) (t : Step g H g' H') (k : SlKeep g g') : g'.adr l = g.adr l := by
  cases l with
  | sl i => exact k i
  | gl n => exact t.le.adr n (by rw [ok.ng]; exact gl_cell e)
theorem ms_setIx (hv : ME X W e me) (ho : ME X W o mo) (hi : ME X W i mi)
    (hs : swapsWithSole [.Subscript o i pos'] e pos.line X.env = pure false := by rfl) (hw : swappedStores [.Subscript o i pos'] e X.env = pure none := by rfl)
    (h1 : (assignEach [.Subscript o i pos'] X.env).map (·.2) = [PySem.assign (.Subscript o i pos') X.env] := by rfl)
    (hg : ∀ v, PySem.assign (.Subscript o i pos') X.env v = (do
      let ov ← holding [v] (eval o X.env)
      let iv ← holding [v, ov] (eval i X.env)
      standAt pos'
      holding [v, ov, iv] (setItem ov iv v)
      release [v, ov, iv] []) := by intro _; rfl) : MS X W (.Assign [.Subscript o i pos'] e pos) (mSetIx me mo mi) := by
  have z := ps_asg hv (pg_sub ho hi set_list hg) hs hw h1
  refine ps_imp z fun D σ H h => ?_
  obtain ⟨g, s, ok, h⟩ := h
  refine tM_leak ok (k := fun d g1 s1 H1 => PostS X.K W g1 s1 H1 D ((mo s1).bind fun r s2 => match locOf r with
  | some l => (match cellOf s2 l with
    | some _ => (mLeak mi s2).bind fun k s3 => (match cellOf s3 l, k with
      | some (.lst xs), .int k => (match ixN xs.length k with
        | some j => .ok .nx (setCell s3 l (.lst (xs.set j d)))
        | none => .stuck)
      | _, _ => .stuck)
    | _ => .stuck)
  | none => .stuck)) (PostS.bind h) fun d g1 s1 H1 v t1 k1 o1 rv h1 => ?_
  refine ⟨g1, s1, o1, (PostS.bind h1).mono fun r g2 s2 H2 t2 k2 o2 h2 u ru => ?_⟩
  split at h2
  · rename_i l e1
    have hu := locOf_ok ru e1
    subst hu
    split at h2
    · rename_i w e2
      refine tM_leak o2 (PostS.bind h2) fun dk g3 s3 H3 y t3 k3 o3 ry h3 => ?_
      have el := loc_held o2 e2 t3 k3
      split at h3
      · rename_i xs k e3
        cases ry
        split at h3
        · rename_i j ej
          obtain ⟨vs, hvs, rvs⟩ := cell_lst o3 e3
          refine ⟨_, vs, k, j, rfl, rfl, by rw [← el]; exact hvs, by rw [rvs.length]; exact ej, ?_⟩
          rw [← el]
          obtain ⟨o4, t4⟩ := o3.change (o' := .lst (xs.set j d)) (ho := .lst (vs.set j v)) e3 ⟨_, upd_same, RepL.set ((rv.mono t2.le).mono t3.le) j rvs⟩
          exact h3 _ _ _ t4 o4
        · exact h3.elim
      · exact h3.elim
    · exact h2.elim
  · exact h2.elim
end
end MI
/-! # An own exception whose __init__ says super().__init__(text + str(place)), then self.f = place -/
namespace MI
open PySem PySem.Spec PyProof.Rows L2

/-- what the written part says of the class at C and of its __init__ -/
structure BbF (P : Program) (K : PySem.W.Frag) (C fI cda cc : Addr) (qual : Str) (params : Arguments) (body : List Stmt) (scope : Scope) (f : Str) : Prop where
  T : OexC K C
  iC : PySem.W.findIn K (.ref C) "__init__" = some (some (.ref fI))
  tI : PySem.W.typeIn K (.ref fI) = some (.type "function")
  fn : ∃ oc od doc pm an ct osl, K.lookup fI = some ⟨oc, od, .func (PySem.W.ksFn "__init__" qual params body scope .none .none doc pm an (.ref cda) ct cc), osl⟩
  hcd : PySem.W.codeIn K (.ref cda) qual = true
  code : ∃ ccl cdd vs ccs file tf, K.lookup cda = some ⟨ccl, cdd, .fields vs, ccs⟩ ∧ vs[2]? = some (.str file tf) ∧ ((P.main.file : Str) == file) = true
  cell : ∃ cl cld csl, K.lookup cc = some ⟨cl, cld, .cell (some (.ref C)), csl⟩
  cls : ∃ cd, PySem.W.clsIn K C = some cd
  sub : PySem.W.mroIn K C (.ref C) = some true
  sup : PySem.W.ks_superIn K C C "__init__" = some (some (.builtin "ValueError.__init__"))
  ve : PySem.W.subIn K (.ref C) (.type "ValueError") = some true
  any : PySem.W.nsIn K cStatics "thirdparty.any" = some none
  exi : ∃ bmB, ExcBaseFacts "ValueError" "ValueError.__new__" "ValueError.__init__" bmB ∧ PySem.W.excInitIn K C bmB "ValueError.__new__" = true
  fld : PySem.W.findIn K (.ref C) f = some none
/-- the def's own places -/
structure BbP where
  p0 : Pos
  p1 : Pos
  p2 : Pos
  p3 : Pos
  p4 : Pos
  p5 : Pos
  p6 : Pos
  p7 : Pos
  p8 : Pos
  p9 : Pos
  q0 : Pos
  q1 : Pos
  q2 : Pos
  q3 : Pos
  msg : Str
  j : Nat
def BbP.arg (b : BbP) : Expr := .BinOp (.Constant (.str b.msg) b.j b.p3) .Add (.Call (.Name "str" b.p4) [.Name "place" b.p5] [] b.p6) b.p7
def BbP.call (b : BbP) : Expr := .Call (.Attribute (.Call (.Name "super" b.p0) [] [] b.p1) "__init__" b.p2) [b.arg] [] b.p8
def BbP.set (b : BbP) (f : Str) : Stmt := .Assign [.Attribute (.Name "self" b.q0) f b.q1] (.Name "place" b.q2) b.q3
def BbP.body (b : BbP) (f : Str) : List Stmt := [.Expr b.call b.p9, b.set f]
/-- the def's own shape -/
structure BbS (P : Program) (params : Arguments) (scope : Scope) (b : BbP) (f : Str) (qual : Str) : Prop where
  msg : b.msg.length ≤ 1000
  ev : ∀ env : Env, env.scope = scope → ∃ pl, eval b.call env = (do
      let ov ← attributeBase (.Call (.Name "super" b.p0) [] [] b.p1) "__init__" env (eval (.Call (.Name "super" b.p0) [] [] b.p1) env)
      standAt b.p2.atName
      let (f, first) ← holding [ov] (getMethod ov "__init__" pl)
      callWith b.p8 f first (backTo b.p8 (starEach [b.arg] env)) [])
  st : ∀ env : Env, env.scope = scope → interactive env = false ∧ swapsWith b.call none b.p9.line env = pure false ∧ swapsWith (.Name "place" b.q2) (some (.Attribute (.Name "self" b.q0) f b.q1)) b.q3.line env = pure false
  sp : ∀ env : Env, env.scope = scope → starEach [b.arg] env = [(false, eval b.arg env)] ∧ starEach [.Name "place" b.p5] env = [(false, eval (.Name "place" b.p5) env)]
  par : ∃ ar, (params.posonlyargs ++ params.args).head? = some ar ∧ ar.arg = "self"
  bind : ∀ (doc pm : Value) (an : Option Addr) (cdv ct : Value) (cc : Addr) (u v : Value), bindArgs (PySem.W.ksFn "__init__" qual params (b.body f) scope .none .none doc pm an cdv ct cc) ⟨[u, v], []⟩ = pure [(("self" : Str), u), (("place" : Str), v)]
  kind : scope.kind = .function
  co : scope.isCoroutine = false
  gen : scope.isGenerator = false
  self : scope.names.lookup ("self" : Str) = some .local
  place : scope.names.lookup ("place" : Str) = some .local
  sup : scope.names.lookup ("super" : Str) = some .globalImplicit
  str : scope.names.lookup ("str" : Str) = some .globalImplicit
  cl : scope.names.lookup ("__class__" : Str) = some .free
  nocell : ∀ x ∈ scope.names, x.2 ≠ .cell
  top : (P.main.scope.names.lookup ("super" : Str)).isSome = false
section
open PySem.W PySem.Calls
variable {P : Program} {w : World} {K : Frag} {C fI cda cc : Addr} {qual f : Str} {params : Arguments} {b : BbP} {scope : Scope} {A : Around} {hp h1 : Heap} {g : Array GenState} {d : Drawn} {t : Nat} {os : OsState} {mg : Str → Option Value} {R : Result → Shared → Prop} {e t1 : Addr} {i : Int} {tk : Tok}
theorem log_small {n : Nat} (h : n ≤ 1000000) : n.log2 < 1920 := by
  by_cases z : n = 0
  · subst z; decide
  · rw [Nat.log2_lt z]
    exact Nat.lt_of_le_of_lt h (by decide +kernel)
theorem bb_run (B : BbF P K C fI cda cc qual params (b.body f) scope f) (S : BbS P params scope b f qual) (X : K.In hp) (hg : hp.Ns mainGlobals mg) (hb : ∃ mb, hp.Ns builtinsNs mb ∧ ∀ x : Str, x ≠ "__name__" → mb x = bootBuiltins x) (nl : hp.NoLimit)
    (hsup : mg "super" = none) (hstr : mg "str" = none) (hroom : A.depth < recursionLimit) (hi : i.natAbs ≤ 1000000) (kk : ∀ b o, hp.get? b = some o → h1.get? b = some o) (hsz : hp.objs.size ≤ e) (he : h1.get? e = some (excObj C t1 none .none))
    (hR : ∀ h2 tk' t' dx, (∀ b o, hp.get? b = some o → h2.get? b = some o) → hp.objs.size ≤ dx → dx ≠ e → h2.get? e = some ({ cls := .ref C, dict := some dx, data := .fields #[.ref t', .none, .none, .none, .bool false, .none] } : Obj) →
      h2.Ns1 dx (fun y => if y = f then some (.int i tk) else none) → R (.ok (.ret .none)) ⟨h2, g, d, tk', os⟩) :
    codeAny (model P w) A (.call (.ref fI) ⟨[.ref e, .int i tk], []⟩) R ⟨h1, g, d, t, os⟩ := by
  obtain ⟨oc, od, doc, pm, an, ct, osl, lk⟩ := B.fn
  obtain ⟨ccl, cdd, vs, ccs, file, tf, lc, lvs, lfile⟩ := B.code
  obtain ⟨cl, cld, csl, lcell⟩ := B.cell
  obtain ⟨cd, lcls⟩ := B.cls
  obtain ⟨bmB, FB, exi⟩ := B.exi
  obtain ⟨ar, har, hself⟩ := S.par
  have X1 : K.In h1 := X.keeps kk
  refine ks_codeAny_call_defAt (fd := ksFn "__init__" qual params (b.body f) scope .none .none doc pm an (.ref cda) ct cc) (body := b.body f) (binds := [("self", .ref e), ("place", .int i tk)]) hroom (kk _ _ (X _ _ lk)) rfl (nl.keeps kk) (codeRec_of X1 B.hcd) rfl
    (.of_eq (S.bind _ _ _ _ _ _ _ _)) S.nocell ?_ (fun h0 hns hk => ?_) S.co S.gen S.kind
  · intro y hy
    rcases List.mem_cons.mp hy with rfl | hy
    · exact S.self
    · rcases List.mem_cons.mp hy with rfl | hy
      · exact S.place
      · cases hy
  have hel : e < h1.objs.size := Heap.lt_size he
  have F0 : Fr hp h1.objs.size h0 (fun x => [(("self" : Str), Value.ref e), ("place", .int i tk)].reverse.lookup x) := ⟨hns, fun b o z => hk b o (kk b o z), Nat.le_of_lt (Nat.lt_of_le_of_lt hsz hel)⟩
  have hpe : hp.get? e = none := by
    cases z : hp.get? e with
    | none => rfl
    | some o => exact absurd (Nat.lt_of_lt_of_le (Heap.lt_size z) hsz) (Nat.lt_irrefl _)
  have N0 : News hp h1.objs.size h0 [(e, excObj C t1 none .none)] := fun p hpm => by
    rcases List.mem_cons.mp hpm with rfl | hpm
    · exact ⟨hk _ _ he, Nat.ne_of_lt hel, hpe⟩
    · cases hpm
  have hL : h1.objs.size ≠ e := fun z => Nat.ne_of_lt hel z.symm
  obtain ⟨mb, hbn, hbl⟩ := hb
  have K0 : K.In h0 := X.keeps F0.keep
  obtain ⟨oD, hD1, hD2⟩ : ∃ oD, h0.get? C = some oD ∧ oD.data = .cls cd := by
    unfold clsIn at lcls
    split at lcls
    · rename_i ho
      cases lcls
      exact ⟨_, K0 _ _ ho, rfl⟩
    · cases lcls
  obtain ⟨m, hm, mself, mplace⟩ : ∃ m : Str → Option Value, (fun x : Str => [(("self" : Str), Value.ref e), (("place" : Str), Value.int i tk)].reverse.lookup x) = m ∧ m "self" = some (.ref e) ∧ m "place" = some (.int i tk) := ⟨_, rfl, rfl, rfl⟩
  rw [hm] at F0 hns
  obtain ⟨env, henv⟩ : ∃ env, callEnv (ksFn "__init__" qual params (b.body f) scope .none .none doc pm an (.ref cda) ct cc) h1.objs.size fI = env := ⟨_, rfl⟩
  have esc : env.scope = scope := by rw [← henv]; rfl
  have elo : env.locals = h1.objs.size := by rw [← henv]; rfl
  have egl : env.globals = mainGlobals := by rw [← henv]; rfl
  have ebl : env.builtins = builtinsNs := by rw [← henv]; rfl
  have ecl : env.cells.lookup ("__class__" : Str) = some cc := by rw [← henv]; rfl
  have efu : env.func = some fI := by rw [← henv]; rfl
  have eco : env.code = .ref cda := by rw [← henv]; rfl
  show _root_.PySem.wpAt _ _ _ (execs [.Expr b.call b.p9, b.set f] (callEnv (ksFn "__init__" qual params (b.body f) scope .none .none doc pm an (.ref cda) ct cc) h1.objs.size fI)) _ _ _
  rw [henv]
  obtain ⟨pl, ev⟩ := S.ev env esc
  obtain ⟨st1, st2, st3⟩ := S.st env esc
  obtain ⟨sp1, sp2⟩ := S.sp env esc
  have kd : ∀ {x : Str} {k : NameKind}, scope.names.lookup x = some k → env.kindOf x = some k := fun {x k} z => by
    show env.scope.names.lookup x = some k
    rw [esc]; exact z
  have ekd : env.scope.kind = .function := by rw [esc]; exact S.kind
  refine ks_wpAt_execs_cons (ks_wpAt_Expr_any (ks_wpAt_MethodCall (ks_wpAt_super_base (kd S.sup) (kd S.cl) (by decide) efu (K0 _ _ lk) rfl har eco (K0 _ _ lc) rfl lvs lfile S.top ?_) ev) st1 st2)
  refine ks_loadName_global ekd (kd S.sup) (loadGlobal_builtin (by rw [egl]; exact hg.keeps F0.keep) hsup (by rw [ebl]; exact hbn.keeps F0.keep) ((hbl _ (by decide)).trans rfl) ⟨rfl, ?_⟩)
  refine wpAny_loadName_free ekd (kd S.cl) ecl ⟨_, K0 _ _ lcell, rfl⟩ ?_
  refine wpAny_loadName_local ekd (by rw [hself]; exact kd S.self) (by rw [elo]; exact F0.ns) (by rw [hself]; exact mself) ?_
  refine ks_wpAny_isType_cls hD1 hD2 ⟨rfl, ?_⟩
  have he0 : h0.get? e = some (excObj C t1 none .none) := (N0 _ List.mem_cons_self).1
  refine ks_wpAny_call_super hD1 hD2 he0 rfl (fun c z => by cases z) (looks_mroIn K0 B.sub) (fun h2 eso k2 => ?_)
  obtain ⟨F2, N2, lt2⟩ := ks_newsPush (s := ⟨h0, g, d, t + 2, os⟩) F0 N0 rfl eso k2
  refine kxs_method kxs_ValueError F2 X N2 List.mem_cons_self (InstAt.of_exc0 N2 (List.mem_cons_of_mem _ List.mem_cons_self)) B.any B.sup B.ve (by decide) (fun q h3 F3 N3 lt3 => ?_)
  -- the text
  have K3 : K.In h3 := X.keeps F3.keep
  refine kxs_callWith1 (i := "ValueError.__init__") (x := e) N3 List.mem_cons_self ?_ (by rw [sp1]; rfl) rfl
  rw [sp1]
  have ns3 : h3.Ns env.locals m := by rw [elo]; exact F3.ns
  have gl3 : h3.Ns env.globals mg := by rw [egl]; exact hg.keeps F3.keep
  have bl3 : h3.Ns env.builtins mb := by rw [ebl]; exact hbn.keeps F3.keep
  show wpAny _ _ (spliced [(false, _)]) _ _ _
  refine Calls.spliced_cons (wpAny_BinOp (Calls.Constant_str (wpAny_Call_Name_kw (Calls.Name_function_global ekd (kd S.str) (loadGlobal_builtin gl3 hstr bl3 ((hbl _ (by decide)).trans rfl) ?_) (by decide)))))
  refine PyProof.Rows.callWith_type1 (T := "str") ?_ (by rw [sp2]; rfl) rfl
  rw [sp2]
  refine Calls.spliced_cons (wpAny_Name (wpAny_loadName_local ekd (kd S.place) ns3 mplace (Calls.spliced_nil ?_)) (by decide))
  refine PySem.P.str_of_int (log_small hi) ?_
  refine PyProof.Rows.add_str (fun t' tk' => Calls.spliced_nil ⟨kxs_at N3 List.mem_cons_self, ?_⟩) ?_
  · refine kxs_call F3 X N3 FB exi List.mem_cons_self (.tail ?_ (.tail ?_ (.head (fun _ z => nomatch z)))) (by show 1 ≤ sizeLine; rw [sizeLine_eq]; decide) (fun t4 h4 F4 N4 lt4 => ?_)
    · exact Nat.ne_of_gt (lt3 _ (List.mem_cons_of_mem _ List.mem_cons_self))
    · exact Nat.ne_of_gt (lt2 _ List.mem_cons_self)
    · -- the field
      have K4 : K.In h4 := X.keeps F4.keep
      have ns4 : h4.Ns env.locals m := by rw [elo]; exact F4.ns
      have e4 : h4.get? e = some (excObj C t4 none .none) := (N4 (e, excObj C t4 none .none) (List.mem_cons_of_mem _ (List.mem_cons_of_mem _ (List.mem_cons_of_mem _ List.mem_cons_self)))).1
      obtain ⟨nm, qn, nN, bs, bm, sn, sub, ab, col, dd, k0, k1, k2', k3, k5, hC, hbm⟩ := B.T.cls
      have hcl : clsIn K C = some { name := nm, bases := bs, mro := .ref C :: bm, ns := nN, qualname := qn, hasDict := true, slotNames := sn, subclasses := sub, abstract := ab, collection := col, hasDel := false } := by
        unfold clsIn
        rw [hC] <;> rfl
      show _root_.PySem.wpAt _ _ _ (execs [b.set f] env) _ _ _
      refine ks_wpAt_execs_cons (ks_wpAt_Assign_Attr (wpAt_of_wpAny (wpAny_Name (wpAny_loadName_local ekd (kd S.place) ns4 mplace (wpAny_Name (wpAny_loadName_local ekd (kd S.self) ns4 mself ?_) (by decide))) (by decide))) st3)
      refine set_plain (ox := excObj C t4 none .none) (od := none) K4 ⟨e4, rfl, rfl, trivial⟩ B.T.sa ?_
      refine PySem.HandSPX.exc_osa K4 e4 hcl (show PySem.HandSPX.refsVE (.ref C :: bm) = true from hbm) rfl B.fld (fun h5 tk5 dx k5' dn dne hx hn => ?_)
      refine wpAt_of_wpAny (wpAny_execs_nil (hR h5 tk5 t4 dx (fun c o z => k5' c o (fun y => by rw [y, hpe] at z; cases z) (F4.keep c o z)) ?_ dne hx hn))
      exact Nat.le_trans (Nat.le_of_lt (Nat.lt_of_le_of_lt hsz (Heap.lt_size e4))) dn
  · have hmsg := S.msg
    have h1 := PyProof.Rows.len_str_of_int i
    rw [sizeLine_eq]
    show b.msg.length + (Str.ofString (toString i)).length ≤ _
    omega
end
end MI
/-! # raise, try -/
namespace MI
open PySem PySem.Spec PyProof.Rows L2

section
variable {X : Cx} {e : Expr} {te : TE} {x f : Str} {p pos : Pos} {C fI cda cc : Addr} {qual : Str} {params : Arguments} {b : BbP} {scope : Scope}
/-- C(e), e a place -/
theorem pmk_bb (B : BbF X.prog X.K C fI cda cc qual params (b.body f) scope f) (S : BbS X.prog params scope b f qual) (hsup : X.mg "super" = none) (hstr : X.mg "str" = none) (hr : Room 3 X.A) (hg : Gl X x) (hm : X.mg x = some (.ref C)) (ha : PE X e te)
    (hdb : (x == ("__debug__" : Str)) = false := by decide) (he : starEach [e] X.env = (false, eval e X.env) :: starEach [] X.env := by rfl) :
    PMk X (.Call (.Name x p) [e] [] pos) (fun σ H Q => tCons te tNil σ H fun vs H1 => ∃ i : Int, vs = [.int i] ∧ i.natAbs ≤ 1000000 ∧ ∀ dx, H1 dx = none → Q (.ref C) (some dx) (upd H1 dx (.xd [(f, .int i)]))) := by
  intro pins s σ H Q I h
  obtain ⟨nm, q, nN, bs, bm, sn, sub, ab, col, dd, k0, k1, k2, k3, k5, hC, hbm⟩ := B.T.cls
  refine wpAny_Call_Name_kw (ld_glob I hg hm ?_ hdb)
  refine PySem.W.callWith_K (h₀ := X.base) I.ok.mod.kin B.T.kC (thn ((pa_cons ha pa_nil he).run pos pins s σ H (fun vs H1 => ∃ i : Int, vs = [.int i] ∧ i.natAbs ≤ 1000000 ∧ ∀ dx, H1 dx = none → Q (.ref C) (some dx) (upd H1 dx (.xd [(f, .int i)]))) I h) fun us s1 ⟨vs, H1, I1, r1, i, ev, hi, q1⟩ => ⟨I1.kIn, ?_⟩) he (by rfl)
  · subst ev
    obtain ⟨u, rfl, ru⟩ := vals1 r1
    obtain ⟨tk, rfl⟩ := ru
    show wpAny _ _ (call (.ref C) [.int i tk]) _ _ _
    obtain ⟨hp, g, dr, tt, os⟩ := s1
    have hget : ((hp.push (PySem.W.kdv_tup [.int i tk])).push (PySem.HandSPX.excO C hp.objs.size)).get? (hp.objs.size + 1) = some (PySem.HandSPX.excO C hp.objs.size) := by heap_get
    have kk : ∀ c o, hp.get? c = some o → ((hp.push (PySem.W.kdv_tup [.int i tk])).push (PySem.HandSPX.excO C hp.objs.size)).get? c = some o := fun c o z => Heap.get?_push_of_some _ (Heap.get?_push_of_some _ z)
    refine wpAny_call (PySem.HandSPX.call_own F.excBase_ValueError (fun Y => PySem.HandSPX.refsVE_contains Y bm hbm) (I1.kIn _ _ hC) (PySem.W.looks_findIn I1.kIn B.iC) (fun self => PySem.W.bind_fn I1.kIn self B.tI) (by show 1 ≤ sizeLine; rw [sizeLine_eq]; decide) ?_)
    refine bb_run B S I1.kIn (I1.mod.glob.keeps I1.bk) ?_ I1.nolimit hsup hstr (Room.depth (hr.make C [.int i tk] [])) hi kk (Nat.le_succ _) hget (fun h2 tk' t' dx k2' dn dne hx hn => ?_)
    · obtain ⟨mb, z1, z2⟩ := I1.mod.blt
      exact ⟨mb, z1.keeps I1.bk, z2⟩
    · refine ⟨rfl, ?_⟩
      obtain ⟨G, g1, g2⟩ := restrict h2 fun c => decide (c ≠ hp.objs.size + 1)
      have gk : ∀ c, c ≠ hp.objs.size + 1 → G.get? c = h2.get? c := fun c hc => g1 c (decide_eq_true hc)
      have ge : G.get? (hp.objs.size + 1) = none := g2 _ (by simp)
      have lt : ∀ c o, hp.get? c = some o → c ≠ hp.objs.size + 1 := fun c o z => Nat.ne_of_lt (Nat.lt_succ_of_lt (Heap.lt_size z))
      have kG : ∀ c o, hp.get? c = some o → G.get? c = some o := fun c o z => (gk c (lt c o z)).trans (k2' c o z)
      have J := I1.laid (t' := tk') (a := dx) (o := .xd [(f, .int i)]) (h' := G) kG dn ?_
      · refine ⟨hp.objs.size + 1, _, _, ⟨G, g, dr, tk', os⟩, _, .ref C, some dx, rfl, J, fun c o z => ?_, ge, hx, ⟨rfl, rfl⟩, rfl, rfl, ?_, rfl, I1.bare, raises_own B.T.exC B.T.tyC, q1 dx (I1.hok.fresh dn)⟩
        · by_cases hc : c = hp.objs.size + 1
          · rw [hc, ge] at z; cases z
          · exact (gk c hc).symm.trans z
        · rw [upd_ne (Ne.symm dne)]
          exact I1.hok.fresh (Nat.le_succ _)
      · refine ⟨_, hn.at fun o z => (gk dx dne).trans z, fun y => ?_⟩
        show RelO (List.lookup y [(f, V.int i)]) (if y = f then some (.int i tk) else none)
        rw [lookup_put]
        by_cases hy : y = f
        · rw [if_pos hy, if_pos hy]; exact ⟨tk, rfl⟩
        · rw [if_neg hy, if_neg hy]; exact True.intro
end

/-! ### what the module says of such a class -/
/-- x stands for an own exception class that keeps one int, under f -/
def XcM (P : Program) (K : PySem.W.Frag) (mg : Str → Option Value) (x f : Str) : Prop :=
  ∃ fI cda cc qual params b scope, BbF P K (He.ga K x) fI cda cc qual params (BbP.body b f) scope f ∧ BbS P params scope b f qual ∧ mg x = some (.ref (He.ga K x)) ∧ mg "super" = none ∧ mg "str" = none
def mRaise (x f : Str) (m : M) : S → Res Out := fun s => (mLeak m s).bind fun d s1 => match d with
  | .int i => if i.natAbs ≤ 1000000 then .exc x (.tup [.str f, .int i]) s1 else .stuck
  | _ => .stuck
section
variable {X : Cx} {W : WX} {e : Expr} {me : M} {x f : Str} {p pos pos' : Pos}
theorem ms_raise (B : XcM X.prog X.K X.mg x f) (hr : Room 3 X.A) (hc : X.calm = true) (tk : Takes X W) (hg : Gl X x) (ha : ME X W e me)
    (hdb : (x == ("__debug__" : Str)) = false := by decide) (he : starEach [e] X.env = (false, eval e X.env) :: starEach [] X.env := by rfl) :
    MS X W (.Raise (some (.Call (.Name x p) [e] [] pos')) none pos) (mRaise x f me) := by
  obtain ⟨fI, cda, cc, qual, params, b, scope, BF, BS, hm, hsup, hstr⟩ := B
  have z := ps_raise (pos := pos) hc tk (pmk_bb (p := p) (pos := pos') BF BS hsup hstr hr hg hm ha hdb he)
  refine ps_imp z fun D σ H h => ?_
  obtain ⟨g, s, ok, h⟩ := h
  unfold mRaise at h
  refine tM_leak ok (k := fun d g1 s1 H1 => PostS X.K W g1 s1 H1 D (match d with
  | .int i => if i.natAbs ≤ 1000000 then .exc x (.tup [.str f, .int i]) s1 else .stuck
  | _ => .stuck)) (PostS.bind h) fun d g1 s1 H1 v t1 k1 o1 rv h1 => ?_
  cases d <;> first | exact h1.elim | skip
  rename_i i
  cases rv
  simp only at h1
  split at h1
  · rename_i hi
    refine ⟨i, rfl, hi, fun dx hx => ?_⟩
    exact h1 _ _ _ g1 _ (Step.grow o1 hx) (o1.grow hx) ⟨rfl, .inr ⟨dx, f, .int i, .int i, rfl, upd_same, rfl, .int i⟩⟩
  · exact h1.elim
end

/-! ### try -/
/-- try: body / except c as n: y = n.f   (tb: which class is one of c) -/
def mTryF (tb : Str → Option Bool) (i j : Nat) (f : Str) (b : S → Res Out) : S → Res Out := fun s => match b s with
  | .exc c p s1 => (match tb c with
    | some true => (match p with
      | .tup [.str f', q] => if f' = f ∧ i ≠ j ∧ i < s1.env.length then (match assign j (.d q) { s1 with env := s1.env.set i .none } with
        | some s2 => .ok .nx s2
        | none => .stuck) else .stuck
      | _ => .stuck)
    | some false => .exc c p s1
    | none => .stuck)
  | r => r
section
variable {K : PySem.W.Frag} {σ : L2.St} {g : G} {s : S} {H : Hp}
theorem Ok.setNone {i : Nat} {x : Option V} (ok : Ok K g s σ H) : Ok K g { s with env := s.env.set i .none } (σ.set i x) H := by
  have cs : ∀ l w, cellOf { s with env := s.env.set i .none } l = some w → cellOf s l = some w := by
    intro l w h
    cases l with
    | gl n => exact h
    | sl k =>
      by_cases hi : i < s.env.length
      · rcases cellOf_set hi h with ⟨_, z⟩ | ⟨_, z⟩
        · cases z
        · exact z
      · have e : s.env.set i Slot.none = s.env := List.set_eq_of_length_le (by omega)
        rw [e] at h; exact h
  refine ⟨ok.sub, fun l w e => ok.cell l w (cs l w e), fun l l' w w' e e' z => ok.inj l l' w w' (cs l w e) (cs l' w' e') z, fun k y e => ?_, by rw [List.length_set, List.length_set]; exact ok.len, ok.ng, fun a p => ?_⟩
  · by_cases z : k = i
    · subst z
      have e' : (s.env.set k Slot.none)[k]? = some y := e
      by_cases hk : k < s.env.length
      · rw [List.getElem?_set_self hk] at e'
        cases e'
        trivial
      · rw [List.getElem?_eq_none (by rw [List.length_set]; omega)] at e'
        cases e'
    · have e' : (s.env.set i Slot.none)[k]? = some y := e
      rw [List.getElem?_set_ne (Ne.symm z)] at e'
      have q := ok.env k y e'
      cases y with
      | none => trivial
      | val d =>
        obtain ⟨v, h1, h2⟩ := q
        exact ⟨v, (List.getElem?_set_ne (Ne.symm z)).trans h1, h2⟩
      | own o => exact (List.getElem?_set_ne (Ne.symm z)).trans q
  · obtain ⟨h1, h2, h3⟩ := ok.prot a p
    exact ⟨h1, h2, fun ⟨l, w, e, z⟩ => h3 ⟨l, w, cs l w e, z⟩⟩
end
section
variable {X : Cx} {W : WX} {body : List Stmt} {mb : S → Res Out} {x n y f : Str} {i j : Nat} {np py pn pa apos pos pos' : Pos} {tb : Str → Option Bool}
theorem ms_tryF (hm : X.mg x = some (.ref (He.ga X.K x))) (hxf : XfC X.K (He.ga X.K x)) (hno : PySem.W.findIn X.K (.ref (He.ga X.K x)) f = some none)
    (htb : ∀ c b, tb c = some b → PySem.W.exmOne X.K (.ref (He.ga X.K c)) (.ref (He.ga X.K x)) = some b ∧ (b = true → c = x)) (hN : X.N.Nodup) (tk : Takes X W) (hg : Gl X x)
    (hb : ∀ (W : WX) (pn : List (Addr × Obj)) (xe : Value → Shared → Prop), Takes (X.tr pn xe) W → PassesOwn (model X.prog X.w) X.A X.env xe → MSs (X.tr pn xe) W body mb)
    (hs : X.stack = X.env :: X.outer := by rfl) (hf : X.env.frame = some X.env.locals := by rfl) (hi : X.N[i]? = some n := by rfl) (hj : X.N[j]? = some y := by rfl) (hln : X.env.kindOf n = some .local := by rfl) (hly : X.env.scope.names.lookup y = some .local := by rfl)
    (hdb : (x == ("__debug__" : Str)) = false := by decide) (hd1 : (n == ("__debug__" : Str)) = false := by decide) (hd2 : (n == ("__classdict__" : Str)) = false := by decide)
    (hsw : swapsWith (.Attribute (.Name n pn) f pa) (some (.Name y py)) apos.line X.env = pure false := by rfl) (hba : attributeBase (.Name n pn) f X.env (eval (.Name n pn) X.env) = eval (.Name n pn) X.env := by rfl) :
    MS X W (.Try body [.ExceptHandler (some (.Name x np)) (some n) [.Assign [.Name y py] (.Attribute (.Name n pn) f pa) apos] pos'] [] [] pos) (mTryF tb i j f mb) := by
  have z := ps_try_as (X := X) (x := x) (n := n) (c := .ref (He.ga X.K x)) (i := i) (np := np) (pos := pos) (pos' := pos') (Wout := W) (tb := fun W => tMS X.K W mb)
    (ts := fun a cls d => fun D σ H => tXf a cls d (He.ga X.K x) f (tVar i) σ H fun v H1 => D.nx (σ.set j (some v)) H1) hs hf hN hi hln ⟨hg, hdb, .inl hm⟩ tk hb
    (fun a oe cls d pn' hz hfs => pss_one (ps_set (X := X.suite a ((a, oe) :: pn')) (i := j) hN hj (.inl hly) (pe_xf (X := X) hxf hno hz hfs (pe_var (X := X.suite a ((a, oe) :: pn')) (i := i) hi (.inl hln) hd1 hd2) hba) hsw (.inr hly)))
  refine ps_imp z fun D σ H h => ?_
  obtain ⟨g, s, ok, h⟩ := h
  refine ⟨g, s, ok, ?_⟩
  unfold mTryF at h
  cases e : mb s with
  | ok a s' => simp only [e] at h; cases a <;> exact h
  | stuck => simp only [e] at h; exact h.elim
  | exc c p s1 =>
    simp only [e] at h
    intro σ' cls d g' H' t o' rep
    obtain ⟨rfl, rep⟩ := rep
    cases eb : tb c with
    | none => simp only [eb] at h; exact h.elim
    | some b =>
      obtain ⟨hx, hc⟩ := htb c b eb
      refine ⟨b, hx, fun hb1 a ha => ?_, fun hb0 => ?_⟩
      · subst hb1
        have ec := hc rfl
        subst ec
        simp only [eb] at h
        split at h
        · rename_i fl q
          split at h
          · rename_i hfij
            obtain ⟨rfl, hij, hlt⟩ := hfij
            split at h
            · rename_i s2 es
              rcases rep with ⟨_, rep⟩ | ⟨dx, f2, v, q2, ed, eH, rep, rq⟩
              · cases rep
              · cases rep
                refine ⟨.ref a, ?_, rfl, rfl, dx, _, v, ed, eH, ?_, ?_⟩
                · exact List.getElem?_set_self (by rw [← o'.len]; exact hlt)
                · simp [List.lookup]
                · show D.nx (((σ'.set i (some (.ref a))).set j (some v)).set i none) H'
                  have el : ((σ'.set i (some (.ref a))).set j (some v)).set i none = (σ'.set i none).set j (some v) := by
                    rw [List.set_comm _ _ (Ne.symm hij), List.set_set, List.set_comm _ _ hij]
                  rw [el]
                  obtain ⟨g2, t2, o2⟩ := assign_ok (o'.setNone (i := i) (x := none)) (show RepRV X.K g' _ H' v (.d q) from rq) es
                  exact h _ _ _ (t.trans t2) o2
            · exact h.elim
          · exact h.elim
        · exact h.elim
      · subst hb0
        simp only [eb] at h
        exact h _ _ _ _ _ t o' ⟨rfl, rep⟩
end
/-- .. and one that a clause names -/
structure XcT (P : Program) (K : PySem.W.Frag) (mg : Str → Option Value) (x f : Str) : Prop where
  xm : XcM P K mg x f
  xf : XfC K (He.ga K x)
  ex : PySem.W.exmOne K (.ref (He.ga K x)) (.ref (He.ga K x)) = some true
def tbOne (x : Str) : Str → Option Bool := fun c => if c = x then some true else none
def mTryX (x : Str) (i j : Nat) (f : Str) (b : S → Res Out) : S → Res Out := mTryF (tbOne x) i j f b
section
variable {X : Cx} {W : WX} {body : List Stmt} {mb : S → Res Out} {x n y f : Str} {i j : Nat} {np py pn pa apos pos pos' : Pos}
theorem ms_tryX (B : XcT X.prog X.K X.mg x f) (hN : X.N.Nodup) (tk : Takes X W) (hg : Gl X x)
    (hb : ∀ (W : WX) (pn : List (Addr × Obj)) (xe : Value → Shared → Prop), Takes (X.tr pn xe) W → PassesOwn (model X.prog X.w) X.A X.env xe → MSs (X.tr pn xe) W body mb)
    (hs : X.stack = X.env :: X.outer := by rfl) (hf : X.env.frame = some X.env.locals := by rfl) (hi : X.N[i]? = some n := by rfl) (hj : X.N[j]? = some y := by rfl) (hln : X.env.kindOf n = some .local := by rfl) (hly : X.env.scope.names.lookup y = some .local := by rfl)
    (hdb : (x == ("__debug__" : Str)) = false := by decide) (hd1 : (n == ("__debug__" : Str)) = false := by decide) (hd2 : (n == ("__classdict__" : Str)) = false := by decide)
    (hsw : swapsWith (.Attribute (.Name n pn) f pa) (some (.Name y py)) apos.line X.env = pure false := by rfl) (hba : attributeBase (.Name n pn) f X.env (eval (.Name n pn) X.env) = eval (.Name n pn) X.env := by rfl) :
    MS X W (.Try body [.ExceptHandler (some (.Name x np)) (some n) [.Assign [.Name y py] (.Attribute (.Name n pn) f pa) apos] pos'] [] [] pos) (mTryX x i j f mb) := by
  obtain ⟨fI, cda, cc, qual, params, b, scope, BF, BS, hm, hsup, hstr⟩ := B.xm
  refine ms_tryF hm B.xf BF.fld (fun c b h => ?_) hN tk hg hb hs hf hi hj hln hly hdb hd1 hd2 hsw hba
  unfold tbOne at h
  split at h
  · rename_i e
    cases h
    subst e
    exact ⟨B.ex, fun _ => rfl⟩
  · cases h
end
end MI
/-! # The head's facts: defs, names, own exception classes -/
namespace MI
open PySem PySem.Spec PyProof.Rows L2 PySem.W

/-- an own exception class with a written __init__: its name, the field, the def -/
structure InD where
  x : Str
  f : Str
  qual : Str
  params : Arguments
  b : BbP
  scope : Scope
abbrev InV : Type := Option (Str × Str × Arguments × FuncBody × Scope × Addr × List Str × Addr)
def InD.val (d : InD) : InV := some (("__init__" : Str), d.qual, d.params, .stmts (d.b.body d.f), d.scope, mainGlobals, [("__class__" : Str)], builtinsNs)
/-- the class object itself -/
def oexB (K : Frag) (C : Addr) : Bool := match K.lookup C with
  | some ⟨.type "type", _, .cls cd, sl⟩ => (match cd.mro, sl.toList with
    | .ref C' :: bm, [_, _, _, _, some (.builtin n), _] => decide (C' = C) && (decide (n = "ValueError.__new__") && (!cd.hasDel && (cd.hasDict && HandSPX.refsVE bm)))
    | _, _ => false)
  | _ => false
theorem oexB_ok {K : Frag} {C : Addr} (h : oexB K C = true) : ∃ nm q N bs bm sn sub ab col dd k0 k1 k2 k3 k5, K.lookup C = some (excClassObj nm q C N bs bm true sn sub ab col dd k0 k1 k2 k3 k5 "ValueError.__new__") ∧ HandSPX.refsVE bm = true := by
  unfold oexB at h
  split at h
  · rename_i dd cd sl ho
    split at h
    · rename_i C' bm k0 k1 k2 k3 n k5 e1 e2
      obtain ⟨a1, h⟩ := Bool.and_eq_true_iff.mp h
      obtain ⟨a2, h⟩ := Bool.and_eq_true_iff.mp h
      obtain ⟨a3, h⟩ := Bool.and_eq_true_iff.mp h
      obtain ⟨a4, a5⟩ := Bool.and_eq_true_iff.mp h
      have b1 := of_decide_eq_true a1
      have b2 := of_decide_eq_true a2
      subst b1 b2
      obtain ⟨nm, bs, mro, ns, qn, hd, sn, sub, ab, col, dl⟩ := cd
      simp only at e1 a3 a4
      subst e1 a4
      have b3 : dl = false := by simpa using a3
      subst b3
      have e3 : sl = #[k0, k1, k2, k3, some (.builtin "ValueError.__new__"), k5] := by
        obtain ⟨l⟩ := sl
        exact congrArg Array.mk e2
      subst e3
      exact ⟨nm, qn, ns, bs, bm, sn, sub, ab, col, dd, k0, k1, k2, k3, k5, ho, a5⟩
    · cases h
  · cases h
def inFn (K : Frag) (d : InD) : Addr := He.ma K (He.ga K d.x) "__init__"
def InD.obs (K : Frag) (d : InD) : InV := match K.lookup (inFn K d) with
  | some ⟨_, _, .func fd, _⟩ => some (fd.name, fd.qualname, fd.params, fd.body, fd.scope, fd.globals, fd.closure.map (·.1), fd.builtins)
  | _ => none
/-- the function object's other parts -/
def inFnB (K : Frag) (C fI : Addr) (qual file : Str) : Bool := match K.lookup fI with
  | some ⟨_, _, .func fd, _⟩ => (match fd.defaults, fd.kwdefaults, fd.closure, fd.code with
    | .none, .none, [(_, cc)], .ref cda => codeIn K (.ref cda) qual && ((match K.lookup cda with
        | some ⟨_, _, .fields vs, _⟩ => (match (vs[2]? : Option Value) with
          | some (Value.str fl _) => (file == fl)
          | _ => false)
        | _ => false) && (match K.lookup cc with
        | some ⟨_, _, .cell (some (.ref D)), _⟩ => decide (D = C)
        | _ => false))
    | _, _, _, _ => false)
  | _ => false
def veB : List Value := [.type "ValueError", .type "Exception", .type "BaseException", .type "object"]
def InD.ok (K : Frag) (file : Str) (d : InD) : Bool :=
  let C := He.ga K d.x
  oexB K C && (He.eqO (findIn K (.ref C) "__setattr__") (some (some (.builtin "object.__setattr__"))) && (decide (subIn K (.ref C) (.type "BaseException") = some true) && (decide (typeIn K (.ref C) = some (.type "type")) && (keepIn K (.ref C) &&
  (He.eqO (findIn K (.ref C) "__init__") (some (some (.ref (inFn K d)))) && (decide (typeIn K (.ref (inFn K d)) = some (.type "function")) && (inFnB K C (inFn K d) d.qual file && ((clsIn K C).isSome && (decide (mroIn K C (.ref C) = some true) &&
  (decide (ks_superIn K C C "__init__" = some (some (.builtin "ValueError.__init__"))) && (decide (subIn K (.ref C) (.type "ValueError") = some true) && (He.eqO (nsIn K cStatics "thirdparty.any") (some none) && (excInitIn K C veB "ValueError.__new__" &&
  (He.eqO (findIn K (.ref C) d.f) (some none) && (xfB K C && (decide (exmOne K (.ref C) (.ref C) = some true) && (He.eqO (nsIn K mainGlobals d.x) (some (some (.ref C))) && (He.eqO (nsIn K mainGlobals "super") (some none) && He.eqO (nsIn K mainGlobals "str") (some none)))))))))))))))))))
theorem InD.xct {P : Program} {K : Frag} {h : Heap} {mg : Str → Option Value} {d : InD} (X : K.In h) (G : h.Ns mainGlobals mg) (ok : d.ok K P.main.file = true) (e : d.obs K = d.val) (S : BbS P d.params d.scope d.b d.f d.qual) : XcT P K mg d.x d.f := by
  unfold InD.ok at ok
  simp only [Bool.and_eq_true, decide_eq_true_eq] at ok
  obtain ⟨c1, c2, c3, c4, c5, c6, c7, c8, c9, c10, c11, c12, c13, c14, c15, c16, c17, c18, c19, c20⟩ := ok
  have c2 := He.eqO_ok c2
  have c6 := He.eqO_ok c6
  have c13 := He.eqO_ok c13
  have c15 := He.eqO_ok c15
  have c18 := He.eqO_ok c18
  have c19 := He.eqO_ok c19
  have c20 := He.eqO_ok c20
  unfold InD.obs at e
  unfold inFnB at c8
  cases q : K.lookup (inFn K d) with
  | none => rw [q] at c8; cases c8
  | some o =>
    obtain ⟨oc, od, dt, osl⟩ := o
    rw [q] at c8 e
    cases dt with
    | func fd =>
      obtain ⟨n1, n2, n3, n4, n5, n6, n7, n8, n9, n10, n11, n12, n13, n14, n15⟩ := fd
      simp only at c8 e
      unfold InD.val at e
      simp only [Option.some.injEq, Prod.mk.injEq] at e
      obtain ⟨h1, h2, h3, h4, h5, h6, h7, h8⟩ := e
      subst h1 h2 h3 h4 h5 h6 h8
      split at c8
      · rename_i nm cc cda
        have hn : nm = "__class__" := by
          have z := List.head_eq_of_cons_eq h7
          exact z
        subst hn
        obtain ⟨d1, c8⟩ := Bool.and_eq_true_iff.mp c8
        obtain ⟨d2, d3⟩ := Bool.and_eq_true_iff.mp c8
        have code : ∃ ccl cdd vs ccs file tf, K.lookup cda = some ⟨ccl, cdd, .fields vs, ccs⟩ ∧ vs[2]? = some (.str file tf) ∧ ((P.main.file : Str) == file) = true := by
          split at d2
          · rename_i ho
            split at d2
            · rename_i hv
              exact ⟨_, _, _, _, _, _, ho, hv, d2⟩
            · cases d2
          · cases d2
        have cell : ∃ cl cld csl, K.lookup cc = some ⟨cl, cld, .cell (some (.ref (He.ga K d.x))), csl⟩ := by
          split at d3
          · rename_i D' _ ho
            have z := of_decide_eq_true d3
            subst z
            exact ⟨_, _, _, ho⟩
          · cases d3
        have BF : BbF P K (He.ga K d.x) (inFn K d) cda cc d.qual d.params (d.b.body d.f) d.scope d.f :=
          ⟨⟨oexB_ok c1, c2, c3, c4, c5⟩, c6, c7, ⟨_, _, _, _, _, _, _, q⟩, d1, code, cell, Option.isSome_iff_exists.mp c9, c10, c11, c12, c13, ⟨veB, F.excBase_ValueError, c14⟩, c15⟩
        exact ⟨⟨_, _, _, _, _, _, _, BF, S, mg_of X G c18, mg_none_of X G c19, mg_none_of X G c20⟩, xfB_ok c16, c17⟩
      · cases c8
    | _ => cases c8
/-! ### the Hook -/
abbrev AlX : Type := Bool × List He.FnW × List InV
structure HdX where
  n : Nat
  file : Str
  fa : List He.Fa
  fn : List He.DefD
  ini : List InD
  tup : List (Str × List He.Dv)
def HdX.ok (d : HdX) (K : Frag) : Bool := d.fa.all (fun f => f.ok K) && (d.fn.all (fun f => f.ok K) && (d.ini.all (fun f => f.ok K d.file) && d.tup.all fun p => He.eqO (nsIn K mainGlobals p.1) (some (some (.ref (He.ga K p.1)))) && He.tupB K p.1 p.2))
def HdX.obs (d : HdX) (K : Frag) : AlX := (d.ok K, d.fn.map (fun f => He.fnW K f.at_), d.ini.map fun f => f.obs K)
def HdX.val (d : HdX) : AlX := (true, d.fn.map He.DefD.val, d.ini.map InD.val)
def HdX.says (d : HdX) (K : Frag) : Prop := d.obs K = d.val
def asX (g : Addr → Option Obj) : Nat → List Addr
  | 0 => [mainGlobals, cStatics]
  | n + 1 => He.growD g (asX g n)
def HdX.obsG (d : HdX) (g : Addr → Option Obj) : AlX := d.obs (He.frG g (asX g d.n))
def HdX.hook (d : HdX) : Hook where
  α := AlX
  obs := fun s => d.obsG s.heap.get?
  val := fun _ => d.val
  says := fun _ h => ∃ K : Frag, K.In h ∧ d.says K
  of := fun _ _ e => ⟨_, He.frG_in, e⟩
  keeps := fun _ _ _ ⟨K, hK, c⟩ k => ⟨K, Frag.In.keeps hK k, c⟩
theorem HdX.obs_eq {d : HdX} {g : Addr → Option Obj} {s : Shared} (h : ∀ a, g a = s.heap.get? a) : d.obsG g = d.hook.obs s := by
  have e : g = s.heap.get? := funext h
  rw [e] <;> rfl
def HdX.ob (d : HdX) (s : SharedT) : AlX := d.obsG (HandSHeadRun.getT s)
theorem HdX.ob_eq (d : HdX) (s : SharedT) : d.ob s = d.hook.obs s.abs := HdX.obs_eq (HandSHeadRun.getT_eq s)
section
variable {d : HdX} {P : Program} {K : Frag} {h : Heap} {mg : Str → Option Value}
theorem HdX.says.ok (c : d.says K) : d.ok K = true := congrArg (fun z : AlX => z.1) c
theorem HdX.says.fact (c : d.says K) (i : Nat) {f : He.Fa} (e : d.fa[i]? = some f := by rfl) : f.ok K = true :=
  List.all_eq_true.mp (Bool.and_eq_true_iff.mp c.ok).1 f (List.mem_of_getElem? e)
theorem HdX.says.def_ (c : d.says K) (X : K.In h) (G : h.Ns mainGlobals mg) (i j : Nat) {x : Str} {params : Arguments} {body : List Stmt} {scope : Scope} (e : d.fn[i]? = some ⟨(x, none), x, x, params, body, scope, [], []⟩ := by rfl) (e2 : d.fa[j]? = some (.glo x) := by rfl) :
    DefM K mg x params body scope := by
  have c1 := (Bool.and_eq_true_iff.mp (Bool.and_eq_true_iff.mp c.ok).2).1
  have q : d.fn.map (fun f => He.fnW K f.at_) = d.fn.map He.DefD.val := congrArg (fun z : AlX => z.2.1) c
  have q2 : (d.fn.map fun f => He.fnW K f.at_)[i]? = (d.fn.map He.DefD.val)[i]? := by rw [q]
  rw [List.getElem?_map, List.getElem?_map, e] at q2
  obtain ⟨fd, F⟩ := He.DefD.funD (Option.some.inj q2) (List.all_eq_true.mp c1 _ (List.mem_of_getElem? e))
  exact ⟨_, fd, F, He.glo_ok X G (c.fact j e2)⟩
theorem HdX.says.free (c : d.says K) (X : K.In h) (G : h.Ns mainGlobals mg) (j : Nat) {x : Str} (e : d.fa[j]? = some (.free x) := by rfl) : mg x = none := He.free_ok X G (c.fact j e)
theorem HdX.says.gint (c : d.says K) (X : K.In h) (G : h.Ns mainGlobals mg) (j : Nat) {x : Str} {i : Int} (e : d.fa[j]? = some (.int x i) := by rfl) : GInt mg x i := He.int_ok X G (c.fact j e)
theorem HdX.says.gstr (c : d.says K) (X : K.In h) (G : h.Ns mainGlobals mg) (j : Nat) {x z : Str} (e : d.fa[j]? = some (.str x z) := by rfl) : GStr mg x z := He.str_ok X G (c.fact j e)
theorem HdX.says.exc (c : d.says K) (hf : d.file = P.main.file) (X : K.In h) (G : h.Ns mainGlobals mg) (i : Nat) {x f qual : Str} {params : Arguments} {b : BbP} {scope : Scope} (S : BbS P params scope b f qual) (e : d.ini[i]? = some ⟨x, f, qual, params, b, scope⟩ := by rfl) : XcT P K mg x f := by
  have c1 := (Bool.and_eq_true_iff.mp (Bool.and_eq_true_iff.mp (Bool.and_eq_true_iff.mp c.ok).2).2).1
  have q : d.ini.map (fun f => f.obs K) = d.ini.map InD.val := congrArg (fun z : AlX => z.2.2) c
  have q2 : (d.ini.map fun f => f.obs K)[i]? = (d.ini.map InD.val)[i]? := by rw [q]
  rw [List.getElem?_map, List.getElem?_map, e] at q2
  have o := List.all_eq_true.mp c1 _ (List.mem_of_getElem? e)
  rw [hf] at o
  exact InD.xct (d := ⟨x, f, qual, params, b, scope⟩) X G o (Option.some.inj q2) S
theorem HdX.says.gtup (c : d.says K) (X : K.In h) (G : h.Ns mainGlobals mg) (i : Nat) {x : Str} {ds : List He.Dv} (e : d.tup[i]? = some (x, ds) := by rfl) : GTup K mg x (ds.map (He.Dv.v K)) := by
  have c1 := (Bool.and_eq_true_iff.mp (Bool.and_eq_true_iff.mp (Bool.and_eq_true_iff.mp c.ok).2).2).2
  have o := List.all_eq_true.mp c1 _ (List.mem_of_getElem? e)
  obtain ⟨o1, o2⟩ := Bool.and_eq_true_iff.mp o
  exact ⟨_, mg_of X G (He.eqO_ok o1), fun H => He.tupB_ok o2 H⟩
end
/-- the places of such an __init__, off its text -/
def bbOf : List Stmt → BbP
  | [.Expr (.Call (.Attribute (.Call (.Name _ p0) _ _ p1) _ p2) [.BinOp (.Constant (.str msg) j p3) _ (.Call (.Name _ p4) [.Name _ p5] _ p6) p7] _ p8) p9, .Assign [.Attribute (.Name _ q0) _ q1] (.Name _ q2) q3] =>
    ⟨p0, p1, p2, p3, p4, p5, p6, p7, p8, p9, q0, q1, q2, q3, msg, j⟩
  | _ => ⟨⟨0, 0, 0, 0⟩, ⟨0, 0, 0, 0⟩, ⟨0, 0, 0, 0⟩, ⟨0, 0, 0, 0⟩, ⟨0, 0, 0, 0⟩, ⟨0, 0, 0, 0⟩, ⟨0, 0, 0, 0⟩, ⟨0, 0, 0, 0⟩, ⟨0, 0, 0, 0⟩, ⟨0, 0, 0, 0⟩, ⟨0, 0, 0, 0⟩, ⟨0, 0, 0, 0⟩, ⟨0, 0, 0, 0⟩, ⟨0, 0, 0, 0⟩, "", 0⟩
/-! ### the end: the law at a script -/
def CXw (P : Program) : CXT := fun outer H s E e s' => ∃ w : World, L2.CX P w outer H s E e s'
theorem law_out {P : Program} (H : Hp) (s : Shared) (e : Value) (s' : Shared) : CXw P [] H s (fun _ _ _ => False) e s' → False := fun ⟨_, _, _, _, _, _, _, _, _, _, _, _, _, z⟩ => z
theorem fnOk_cx {P : Program} {w : World} {K : Frag} {mg : Str → Option Value} {base : Heap} {k : Nat} {f : Addr} {fd : FuncData} {ps : List Str} {sp : Sp} (F : FnOk P w K mg base (L2.CX P w) k f fd ps sp) : FnOk P w K mg base (CXw P) k f fd ps sp :=
  ⟨F.len, fun A outer s H args us vs Q E hr e0 hb r q => codeAny_mono (F.run A outer s H args us vs Q E hr e0 hb r q) fun r s' z => by
    cases r with
    | error e => exact ⟨w, z⟩
    | ok fl => cases fl <;> exact z⟩
theorem law_end {P : Program} {w : World} {K : Frag} {mg : Str → Option Value} {fa : Addr} {h : Heap} {k : Nat} {fm : Fm} (KX : K.In h) (hmg : mg ("law" : Str) = some (.ref fa)) (F : ∀ base : Heap, FnM P w K mg base k "law" ["script"] fm)
    (plain : ∀ ns : List Int, ns.length ≤ 63 → ∃ gl, fm [.scr (ns.map D.int)] [] = .ok (.bl true) gl) :
    ∃ (K : Frag) (fd : FuncData) (sp : Sp), K.In h ∧ (∀ (s : Shared) (u : Value), BindsTo s fd ⟨[u], []⟩ [(("script" : Str), u)]) ∧
        (∀ (H : Hp) (a : Addr) (ns : List Int), ns.length ≤ 63 → Only H → SqL K H a (ns.map V.int) → sp [.ref a] H (fun v _ => v = .bl true) fun _ _ _ => False) ∧
        ∀ base : Heap, K.In base → base.Ns mainGlobals mg → FnOk P w K mg base (CXw P) k fa fd ["script"] sp := by
  obtain ⟨f0, fd, _, hm0, _, _, ⟨oc, od, osl, lk⟩, hb⟩ := (F h).ex
  have ef : f0 = fa := by rw [hm0] at hmg; cases hmg; rfl
  subst ef
  refine ⟨K, fd, spM K fm, KX, fun s u => hb s [u] rfl, fun H a ns hl _ hS => ?_, fun base _ _ => ?_⟩
  · have rl : ∀ ns : List Int, RepL K ⟨H, fun _ => False, fun _ => 0, 0⟩ (ns.map V.int) (ns.map D.int) := fun ns => by
      induction ns with
      | nil => exact .nil
      | cons i r ih => exact .cons (.int i) ih
    refine ⟨⟨H, fun _ => False, fun _ => 0, 0⟩, [], [.scr (ns.map D.int)], ⟨Sub.refl _, fun l o e => ?_, fun l l' o o' e => ?_, fun i x e => (nomatch e), rfl, rfl, fun a p => p.elim⟩, .one (.scr hS (rl ns)), ?_⟩
    · cases l with
      | sl i => exact nomatch (show (none : Option MObj) = some o from e)
      | gl n => exact nomatch (show (none : Option MObj) = some o from e)
    · cases l with
      | sl i => exact nomatch (show (none : Option MObj) = some o from e)
      | gl n => exact nomatch (show (none : Option MObj) = some o from e)
    · obtain ⟨gl, e⟩ := plain ns hl
      rw [e]
      intro v g' H' _ _ r
      cases r
      rfl
  · obtain ⟨f1, fd1, F1, hm1, _, _, ⟨oc1, od1, osl1, lk1⟩, _⟩ := (F base).ex
    have ef : f1 = f0 := by rw [hm0] at hm1; cases hm1; rfl
    subst ef
    rw [lk] at lk1
    cases lk1
    exact fnOk_cx F1
end MI
/-! # More methods of lists -/
namespace MI
open PySem PySem.Spec PyProof.Rows L2
/-- xs.extend(ys), ys a list -/
def fExtend : List D → D → Option (D × List D) := fun xs d => match d with
  | .lst ys => if xs.length + ys.length ≤ sizeLine then some (.non, xs ++ ys) else none
  | _ => none
section
variable {X : Cx} {W : WX} {o a : Expr} {mo ma : M} {apos cpos : Pos}
/-- (as mLm1_of; the heap of the argument is seen) -/
theorem mLm1_ofF {f : List D → D → Option (D × List D)} {r : V → List V → Hp → VK → Prop}
    (hf : ∀ (g : G) (l : Addr) (vs : List V) (xs : List D) (y : V) (d : D) (x : D) (ys : List D) (H : Hp) (Q : VK), Sub g.F H → RepL X.K g vs xs → Rep X.K g y d → H l = some (.lst vs) → f xs d = some (x, ys) →
      (∀ v ws, Rep X.K g v x → RepL X.K g ws ys → Q v (upd H l (.lst ws))) → r (.ref l) [y] H Q)
    {σ : L2.St} {H : Hp} {Q : VK} {g : G} {s : S} (ok : Ok X.K g s σ H) (h : PostE X.K W σ g s H (kE X.K Q) (mLm1 f mo ma s)) : tBM X.K "list" r (tM X.K W mo) (tCons (tM X.K W ma) tNil) σ H Q := by
  refine ⟨g, s, ok, (PostE.bind h).mono fun rv g1 s1 H1 t1 k1 o1 h1 v rr => ?_⟩
  split at h1
  · rename_i l e1
    have hv := locOf_ok rr e1
    subst hv
    split at h1
    · rename_i zs e2
      obtain ⟨us, hu, _⟩ := cell_lst o1 e2
      refine ⟨.inl ⟨rfl, us, .of hu⟩, ?_⟩
      refine tM_leak o1 (PostE.bind h1) fun d g2 s2 H2 y t2 k2 o2 ry h2 => ?_
      have el := loc_held o1 e2 t2 k2
      split at h2
      · rename_i xs e3
        split at h2
        · rename_i x ys e4
          obtain ⟨vs, hvs, rvs⟩ := cell_lst o2 e3
          show r (.ref (g1.adr l)) [y] H2 Q
          rw [← el]
          exact hf g2 _ vs xs y d x ys H2 Q o2.sub rvs ry hvs e4 fun v ws rv rw' => kE_change (o' := .lst ys) o2 e3 ⟨ws, upd_same, rw'⟩ rv h2
        · exact h2.elim
      · exact h2.elim
    · exact h1.elim
  · exact h1.elim
theorem me_extend (ho : ME X W o mo) (ha : ME X W a ma) (hbase : attributeBase o "extend" X.env (eval o X.env) = eval o X.env := by rfl)
    (hfew : ((backTo cpos (starEach [a] X.env)).all (fun x => !x.1) && (backToKw cpos (keywordEach [] X.env)).all (fun x => x.1.isSome)
      && decide ([a].length + ([] : List Keyword).length + (if ([] : List Keyword).isEmpty then 0 else 1) < 30)) = true := by rfl)
    (hline : (apos.endLine == cpos.line) = true := by rfl) (hs : starEach [a] X.env = (false, eval a X.env) :: starEach [] X.env := by rfl) :
    ME X W (.Call (.Attribute o "extend" apos) [a] [] cpos) (mLm1 fExtend mo ma) := by
  have z := pe_bm PySem.F.plainAttrs_list PySem.F.slot_list_extend PySem.F.type_list_extend mt_extend ho (pa_cons ha pa_nil hs) hbase hfew hline hs
  refine pe_imp z fun σ H Q h => ?_
  obtain ⟨g, s, ok, h⟩ := h
  refine mLm1_ofF (fun g l vs xs y d x ys H Q sb rvs ry hl e q => ?_) ok h
  clear h
  obtain ⟨zd, rfl⟩ : ∃ zd, d = .lst zd := by
    cases d <;> first | exact ⟨_, rfl⟩ | exact absurd e (by simp [fExtend])
  cases ry
  rename_i b zs hb rz
  unfold fExtend at e
  simp only at e
  split at e
  · rename_i hz
    cases e
    exact ⟨l, b, vs, zs, rfl, rfl, hl, sb _ _ hb, by rw [rvs.length, rz.length]; exact hz, q _ _ .non (rvs.append rz)⟩
  · cases e
end
/-! ### enumerate of a list -/
def enumD (lo : Nat) : List D → List D
  | [] => []
  | d :: ds => .tup [.int lo, d] :: enumD (lo + 1) ds
theorem enumD_len : ∀ (lo : Nat) (ds : List D), (enumD lo ds).length = ds.length
  | _, [] => rfl
  | lo, d :: ds => by rw [enumD, List.length_cons, List.length_cons, enumD_len]
theorem enumD_get : ∀ (lo : Nat) (ds : List D) (i : Nat) (x : D), (enumD lo ds)[i]? = some x → ∃ d, ds[i]? = some d ∧ x = .tup [.int ((lo + i : Nat) : Int), d]
  | _, [], _, _, h => by cases h
  | lo, d :: ds, 0, x, h => ⟨d, rfl, by simpa [enumD] using h.symm⟩
  | lo, d :: ds, i + 1, x, h => by
    obtain ⟨y, h1, h2⟩ := enumD_get (lo + 1) ds i x (by simpa [enumD] using h)
    refine ⟨y, by simpa using h1, ?_⟩
    rw [h2, show lo + 1 + i = lo + (i + 1) by omega]
def iEnumM (m : S → Res (List D)) : S → Res (List D) := fun s => (m s).bind fun ds s1 => match ds with
  | [.lst xs] => .ok (enumD 0 xs) s1
  | [.scr xs] => .ok (enumD 0 xs) s1
  | _ => .stuck
theorem walk_enum {K : PySem.W.Frag} {g : G} {a : Addr} {vs : List V} {ds : List D} (h : SqL K g.F a vs) (r : RepL K g vs ds) : Walk K (Ite K a) (enumD 0 ds) g := by
  intro g' s' σ' H' l ok
  have hq : SqL K H' a vs := sqL_mono (l.F.trans ok.sub) h
  refine ⟨⟨vs, hq, by rw [r.length, enumD_len]; exact Nat.le_refl _⟩, fun i d e => ?_⟩
  obtain ⟨y, hy, rfl⟩ := enumD_get 0 ds i d e
  obtain ⟨v, hv, rv⟩ := r.get hy
  refine ⟨⟨vs, v, hq, hv⟩, fun x H'' ⟨T, z, ex, hT, eH, e2⟩ => ?_⟩
  subst ex eH
  have e3 := e2 vs hq
  rw [hv] at e3
  cases e3
  have k1 := ok.grow (o := .tup [.int (i : Nat), v]) hT
  have k2 := k1.frz (o := .tup [.int (i : Nat), v]) upd_same (ok.fnone hT) (ok.pnone hT) (ok.lnone hT)
  refine ⟨g'.frz T (.tup [.int (i : Nat), v]), (Step.grow ok hT).trans (Step.frz (ok.fnone hT)), SlKeep.refl _, k2, ?_⟩
  rw [Nat.zero_add]
  exact .tup (.inl (.inl upd_same)) (.cons (.int _) (.cons ((rv.mono l).mono (frz_le (ok.fnone hT))) .nil))
section
variable {X : Cx} {W : WX} {e : Expr} {m : S → Res (List D)} {p pos tpos : Pos} {elts : List Expr} {kk : Nat}
theorem mi_enum (ha : MA X W [e] m) (hg : Gl X "enumerate") (hm : X.mg "enumerate" = none) (hs : starEach [e] X.env = [(false, eval e X.env)] := by rfl) : MIt X W (.Tuple elts kk tpos) (.Call (.Name "enumerate" p) [e] [] pos) (iEnumM m) := by
  refine pi_imp (pi_enum hg hm ha hs) fun σ H R h => ?_
  obtain ⟨g, s, ok, h⟩ := h
  refine ⟨g, s, ok, (PostE.bind h).mono fun ds g1 s1 H1 t1 k1 o1 h1 vs rs => ?_⟩
  split at h1
  · cases rs with
    | cons r1 rs =>
      cases rs
      cases r1 with
      | lst hq r => exact ⟨_, _, rfl, .of (o1.sub _ _ hq), PostE.done h1 o1 _ (walk_enum (.of hq) r)⟩
  · cases rs with
    | cons r1 rs =>
      cases rs
      cases r1 with
      | scr hq r => exact ⟨_, _, rfl, sqL_mono o1.sub hq, PostE.done h1 o1 _ (walk_enum hq r)⟩
  · exact h1.elim
end
/-! ### a text's signs -/
def signs (x : Str) : List D := x.cps.toList.map fun c => .str ⟨#[c]⟩
def iStrM (m : M) : S → Res (List D) := fun s => (mLeak m s).bind fun d s1 => match d with
  | .str x => .ok (signs x) s1
  | _ => .stuck
theorem walk_str {K : PySem.W.Frag} {g : G} {x : Str} : Walk K (Its x) (signs x) g := by
  intro g' s' σ' H' l ok
  refine ⟨by show x.cps.size ≤ (signs x).length; simp [signs], fun i d e => ?_⟩
  unfold signs at e
  rw [List.getElem?_map] at e
  obtain ⟨c, hc, rfl⟩ := Option.map_eq_some_iff.mp e
  have hc' : x.cps[i]? = some c := by rw [← Array.getElem?_toList]; exact hc
  refine ⟨(Array.getElem?_eq_some_iff.mp hc').1, fun y H'' ⟨e1, c', h', ey⟩ => ?_⟩
  subst e1 ey
  rw [hc'] at h'
  cases h'
  exact ⟨g', Step.refl _ _, SlKeep.refl _, ok, .str _⟩
theorem mi_str {X : Cx} {W : WX} {tg e : Expr} {me : M} (he : ME X W e me) : MIt X W tg e (iStrM me) := by
  refine pi_imp (pi_str he) fun σ H R h => ?_
  obtain ⟨g, s, ok, h⟩ := h
  refine tM_leak ok (PostE.bind h) fun d g1 s1 H1 v t1 k1 o1 rv h1 => ?_
  split at h1
  · cases rv
    exact ⟨_, rfl, PostE.done h1 o1 _ walk_str⟩
  · exact h1.elim
end MI
namespace MI
open PySem PySem.Spec PyProof.Rows L2
/-! ### a text in a text -/
def inS (i j : Str) : Bool := !(Builtin.Str.occurrences j i 0 j.length 1).isEmpty
def opInS : S → RV → RV → Res RV := fS fun i j => inS i j
section
variable {X : Cx} {W : WX} {a b : Expr} {ma mb : M} {pos : Pos}
theorem os_inS : OpS X W (fun x y H Q => ∃ i j, x = .str i ∧ y = .str j ∧ Q (.bl (inS i j)) H) opInS := fS_ok
theorem me_inS (ha : ME X W a ma) (hb : ME X W b mb) (hm : behindInMarks .In b = false) : ME X W (.Compare a [.In] [b] pos) (mBin opInS ma mb) := me_cmp op_in_str os_inS ha hb hm
theorem mt_inS (ha : ME X W a ma) (hb : ME X W b mb) (hm : behindInMarks .In b = false) : MT X W (.Compare a [.In] [b] pos) (mBl (mBin opInS ma mb)) := mt_cmp op_in_str os_inS ha hb hm
/-- .. a single sign -/
def opInC (neg : Bool) : S → RV → RV → Res RV := fun s a b => match asStr a, asStr b with
  | some x, some z => (match x.cps.toList with
    | [c] => .ok (.d (.bl (decide (c ∈ z.cps.toList) != neg))) s
    | _ => .stuck)
  | _, _ => .stuck
theorem one_sign {x : Str} {c : Nat} (h : x.cps.toList = [c]) : x = ⟨#[c]⟩ := by
  obtain ⟨⟨l⟩⟩ := x
  simp only at h
  subst h
  rfl
theorem os_inC : OpS X W (fun x y H Q => ∃ (c : Nat) (z : Str), x = .str ⟨#[c]⟩ ∧ y = .str z ∧ Q (.bl (decide (c ∈ z.cps.toList))) H) (opInC false) := by
  intro σ g s H Q x y ra rb ok rx ry nn q
  unfold opInC at q
  split at q
  · rename_i i j e1 e2
    split at q
    · rename_i c hc
      refine ⟨c, j, by rw [asStr_ok rx e1, one_sign hc], asStr_ok ry e2, ?_⟩
      have z := kE_d q ok (.bl _)
      simpa using z
    · exact q.elim
  · exact q.elim
theorem me_inC (ha : ME X W a ma) (hb : ME X W b mb) (hm : behindInMarks .In b = false) : ME X W (.Compare a [.In] [b] pos) (mBin (opInC false) ma mb) := me_cmp op_in_sign os_inC ha hb hm
theorem mt_inC (ha : ME X W a ma) (hb : ME X W b mb) (hm : behindInMarks .In b = false) : MT X W (.Compare a [.In] [b] pos) (mBl (mBin (opInC false) ma mb)) := mt_cmp op_in_sign os_inC ha hb hm
end
end MI
/-! # Methods of lists and texts, x += e -/
namespace MI
open PySem PySem.Spec PyProof.Rows L2

/-! ### xs.extend(a list or a tuple) -/
theorem extend_tuple_any (l : Addr) (items : Array Value) (n : Nat) (b : Addr) (items2 : Array Value) (n2 : Nat) (dd : Option Addr) (sl : Array (Option Value)) (hs0 : ¬(!items.isEmpty && Builtin.List.listTooLong (items.size + items2.size)) = true) (hs1 : items.size ≤ sizeLine) (hs2 : items.size + items2.size ≤ sizeLine + 1) :
    Meets (Builtin.«list.extend» ⟨[.ref l, .ref b], []⟩) (fun _ R s => s.heap.get? l = some { cls := .type "list", dict := none, data := .seq items n, slots := #[] } ∧ s.heap.get? b = some { cls := .type "tuple", dict := dd, data := .seq items2 n2, slots := sl } ∧ R (.ok (.ret Value.none)) { s with heap := s.heap.update l (Obj.mapSeq fun x => x ++ items2), toks := s.toks }) :=
  .of_wp fun prog w A R s h => by
    obtain ⟨hp, g, d, tk, os⟩ := s; obtain ⟨hl, hb, h⟩ := h; have f1 := AutoSeq1.idx_int; have f2 := AutoSeq1.sub_tuple_tuple; have f3 := AutoSeq1.sub_list_list; have f4 := AutoSeq1.sub_tuple_list; have f5 := AutoSeq1.sub_list_tuple
    have hz' : (items ++ items2).size ≤ sizeLine + 1 := by rw [Array.size_append]; exact hs2
    wp_walk using (wpAny_updateSeq hl rfl (hz := hs1) (_hz' := hz')), wpAny_loadPart' hl, wpAny_loadPart' hb; exact ⟨_, rfl, h⟩
def rExtendT (K : PySem.W.Frag) : V → List V → Hp → VK → Prop := fun x vs H Q => ∃ l b xs zs, x = .ref l ∧ vs = [.ref b] ∧ H l = some (.lst xs) ∧ SqT K H b zs ∧ xs.length + zs.length ≤ sizeLine ∧ Q .non (upd H l (.lst (xs ++ zs)))
theorem mt_extendA {X : Cx} : MtM X "list.extend" (fun x vs H Q => rExtend x vs H Q ∨ rExtendT X.K x vs H Q) := by
  intro pins s σ H x vs v us Q I rx rv h
  rcases h with h | h
  · exact mt_extend pins s σ H x vs v us Q I rx rv h
  obtain ⟨l, b, xs, zs, rfl, rfl, hH, hB, hz, q⟩ := h
  cases rx
  obtain ⟨u, rfl, ru⟩ := rv.one
  cases ru
  obtain ⟨z, its, n, r, hl, e⟩ := I.lstM hH
  obtain ⟨its2, r2, ⟨⟨cls, dd, data, sl⟩, ho, hc, n2, hd⟩, hl2⟩ := I.tuple hB
  simp only at hc hd
  subst hc hd
  have z1 := r.length
  have z2 := r2.length
  have hsz : its.toArray.size + its2.toArray.size ≤ sizeLine := by rw [List.size_toArray, List.size_toArray]; omega
  have hlong : ¬ (!its.toArray.isEmpty && Builtin.List.listTooLong (its.toArray.size + its2.toArray.size)) = true := by
    rw [notLongL hsz, Bool.and_false]
    exact Bool.false_ne_true
  refine call_meets F.slot_list_extend ⟨_, e, rfl⟩ F.entry_list_extend (F.args_list_extend_2 _ _)
    (extend_tuple_any l its.toArray n b its2.toArray n2 dd sl hlong (by rw [List.size_toArray]; omega) (by omega)) ⟨e, ho, ?_⟩
  refine ⟨.non, _, I.lset (its' := its ++ its2) hH e (by simp) (r.append r2) ?_, rfl, q⟩
  rw [List.length_append]
  omega
def fExtendA : List D → D → Option (D × List D) := fun xs d => match d with
  | .lst ys => if xs.length + ys.length ≤ sizeLine then some (.non, xs ++ ys) else none
  | .tup ys => if xs.length + ys.length ≤ sizeLine then some (.non, xs ++ ys) else none
  | _ => none
section
variable {X : Cx} {W : WX} {o a : Expr} {mo ma : M} {apos cpos : Pos}
theorem me_extendA (ho : ME X W o mo) (ha : ME X W a ma) (hbase : attributeBase o "extend" X.env (eval o X.env) = eval o X.env := by rfl)
    (hfew : ((backTo cpos (starEach [a] X.env)).all (fun x => !x.1) && (backToKw cpos (keywordEach [] X.env)).all (fun x => x.1.isSome)
      && decide ([a].length + ([] : List Keyword).length + (if ([] : List Keyword).isEmpty then 0 else 1) < 30)) = true := by rfl)
    (hline : (apos.endLine == cpos.line) = true := by rfl) (hs : starEach [a] X.env = (false, eval a X.env) :: starEach [] X.env := by rfl) :
    ME X W (.Call (.Attribute o "extend" apos) [a] [] cpos) (mLm1 fExtendA mo ma) := by
  have z := pe_bm PySem.F.plainAttrs_list PySem.F.slot_list_extend PySem.F.type_list_extend mt_extendA ho (pa_cons ha pa_nil hs) hbase hfew hline hs
  refine pe_imp z fun σ H Q h => ?_
  obtain ⟨g, s, ok, h⟩ := h
  refine mLm1_ofF (fun g l vs xs y d x ys H Q sb rvs ry hl e q => ?_) ok h
  clear h
  unfold fExtendA at e
  split at e
  · cases ry
    rename_i zs b us hb rz
    split at e
    · rename_i hz
      cases e
      exact .inl ⟨l, b, vs, us, rfl, rfl, hl, sb _ _ hb, by rw [rvs.length, rz.length]; exact hz, q _ _ .non (rvs.append rz)⟩
    · cases e
  · cases ry
    rename_i zs b us hb rz
    split at e
    · rename_i hz
      cases e
      exact .inr ⟨l, b, vs, us, rfl, rfl, hl, sqT_mono sb hb, by rw [rvs.length, rz.length]; exact hz, q _ _ .non (rvs.append rz)⟩
    · cases e
  · cases e
end

/-! ### xs.pop() -/
def mLm0 (f : List D → Option (D × List D)) (o : M) : M := fun s => (o s).bind fun r s1 => match locOf r with
  | some l => (match cellOf s1 l with
    | some (.lst xs) => (match f xs with
      | some (x, ys) => .ok (.d x) (setCell s1 l (.lst ys))
      | none => .stuck)
    | _ => .stuck)
  | none => .stuck
def fPop : List D → Option (D × List D) := fun xs => match xs[xs.length - 1]? with
  | some y => some (y, xs.dropLast)
  | none => none
section
variable {X : Cx} {W : WX} {o a : Expr} {mo ma : M} {apos cpos : Pos}
theorem me_pop (ho : ME X W o mo) (hbase : attributeBase o "pop" X.env (eval o X.env) = eval o X.env := by rfl) (hline : (apos.endLine == cpos.line) = true := by rfl) :
    ME X W (.Call (.Attribute o "pop" apos) [] [] cpos) (mLm0 fPop mo) := by
  refine pe_imp (pe_bm0 PySem.F.plainAttrs_list PySem.F.slot_list_pop PySem.F.type_list_pop mt_pop ho hbase hline) fun σ H Q h => ?_
  obtain ⟨g, s, ok, h⟩ := h
  refine ⟨g, s, ok, (PostE.bind h).mono fun rv g1 s1 H1 t1 k1 o1 h1 v rr => ?_⟩
  split at h1
  · rename_i l e1
    have hv := locOf_ok rr e1
    subst hv
    split at h1
    · rename_i zs e2
      obtain ⟨us, hu, ru⟩ := cell_lst o1 e2
      refine ⟨.inl ⟨rfl, us, .of hu⟩, ?_⟩
      split at h1
      · rename_i x ys e4
        unfold fPop at e4
        split at e4
        · rename_i y ey
          cases e4
          obtain ⟨w, hw, rw'⟩ := ru.get ey
          refine ⟨_, us, w, rfl, rfl, hu, by rw [ru.length]; exact hw, ?_⟩
          refine kE_change (o' := .lst zs.dropLast) o1 e2 ⟨us.dropLast, upd_same, ?_⟩ rw' h1
          rw [List.dropLast_eq_take, List.dropLast_eq_take, ru.length]
          exact ru.take _
        · cases e4
      · exact h1.elim
    · exact h1.elim
  · exact h1.elim

/-! ### methods of texts with one argument -/
def mSm1 (f : Str → D → Option D) (o a : M) : M := fun s => (mLeak o s).bind fun d s1 => match d with
  | .str x => (mLeak a s1).bind fun y s2 => (match f x y with
    | some z => .ok (.d z) s2
    | none => .stuck)
  | _ => .stuck
theorem mSm1_of {f : Str → D → Option D} {r : V → List V → Hp → VK → Prop}
    (hf : ∀ (g : G) (x : Str) (y : V) (d z : D) (H : Hp) (Q : VK), Sub g.F H → Rep X.K g y d → f x d = some z → (∀ v, Rep X.K g v z → Q v H) → r (.str x) [y] H Q)
    {σ : L2.St} {H : Hp} {Q : VK} {g : G} {s : S} (ok : Ok X.K g s σ H) (h : PostE X.K W σ g s H (kE X.K Q) (mSm1 f mo ma s)) : tBM X.K "str" r (tM X.K W mo) (tCons (tM X.K W ma) tNil) σ H Q := by
  refine tM_leak ok (PostE.bind h) fun d g1 s1 H1 v t1 k1 o1 rv h1 => ?_
  split at h1
  · cases rv
    refine ⟨rfl, ?_⟩
    refine tM_leak o1 (PostE.bind h1) fun d g2 s2 H2 y t2 k2 o2 ry h2 => ?_
    split at h2
    · rename_i z e
      exact hf g2 _ y d z H2 Q o2.sub ry e fun v rv => kE_d h2 o2 rv
    · exact h2.elim
  · exact h1.elim
def fIndexS : Str → D → Option D := fun x d => match d with
  | .str y => (match Builtin.Str.occurrences x y 0 x.length 1 with
    | i :: _ => some (.int (i : Nat))
    | [] => none)
  | _ => none
theorem me_indexS (ho : ME X W o mo) (ha : ME X W a ma) (hbase : attributeBase o "index" X.env (eval o X.env) = eval o X.env := by rfl)
    (hfew : ((backTo cpos (starEach [a] X.env)).all (fun x => !x.1) && (backToKw cpos (keywordEach [] X.env)).all (fun x => x.1.isSome)
      && decide ([a].length + ([] : List Keyword).length + (if ([] : List Keyword).isEmpty then 0 else 1) < 30)) = true := by rfl)
    (hline : (apos.endLine == cpos.line) = true := by rfl) (hs : starEach [a] X.env = (false, eval a X.env) :: starEach [] X.env := by rfl) :
    ME X W (.Call (.Attribute o "index" apos) [a] [] cpos) (mSm1 fIndexS mo ma) := by
  refine pe_imp (pe_bm PySem.F.plainAttrs_str PySem.F.slot_str_index PySem.F.type_str_index mt_sindex ho (pa_cons ha pa_nil hs) hbase hfew hline hs) fun σ H Q h => ?_
  obtain ⟨g, s, ok, h⟩ := h
  refine mSm1_of (fun g x y d z H Q sb ry e q => ?_) ok h
  unfold fIndexS at e
  split at e
  · rename_i y0
    cases ry
    split at e
    · rename_i i rest ho
      cases e
      exact ⟨x, _, i, rest, rfl, rfl, ho, q _ (.int _)⟩
    · cases e
  · cases e
def strsOf : List D → Option (List Str)
  | [] => some []
  | .str i :: r => (strsOf r).map (i :: ·)
  | _ :: _ => none
theorem strsOf_ok {K : PySem.W.Frag} {g : G} : ∀ {vs : List V} {ds : List D} {bs : List Str}, RepL K g vs ds → strsOf ds = some bs → vs = bs.map V.str
  | _, _, _, .nil, e => by cases e; rfl
  | _, _, bs, .cons (d := d) a b, e => by
    cases d with
    | str k =>
      cases a
      simp only [strsOf] at e
      obtain ⟨cs, e1, rfl⟩ := Option.map_eq_some_iff.mp e
      rw [strsOf_ok b e1]; rfl
    | _ => cases e
def joinD (x : Str) (ds : List D) : Option D := match strsOf ds with
  | some ys => if (ys.map (·.length)).sum + ys.length * x.length ≤ 16777216 then some (.str (Txt.join x ys)) else none
  | none => none
def fJoin : Str → D → Option D := fun x d => match d with
  | .lst ds => joinD x ds
  | .tup ds => joinD x ds
  | _ => none
theorem joinD_ok {x : Str} {ds : List D} {z : D} (e : joinD x ds = some z) : ∃ ys, strsOf ds = some ys ∧ (ys.map (·.length)).sum + ys.length * x.length ≤ 16777216 ∧ z = .str (Txt.join x ys) := by
  unfold joinD at e
  split at e
  · rename_i ys e1
    split at e
    · rename_i h
      cases e
      exact ⟨ys, e1, h, rfl⟩
    · cases e
  · cases e
theorem me_join (ho : ME X W o mo) (ha : ME X W a ma) (hbase : attributeBase o "join" X.env (eval o X.env) = eval o X.env := by rfl)
    (hfew : ((backTo cpos (starEach [a] X.env)).all (fun x => !x.1) && (backToKw cpos (keywordEach [] X.env)).all (fun x => x.1.isSome)
      && decide ([a].length + ([] : List Keyword).length + (if ([] : List Keyword).isEmpty then 0 else 1) < 30)) = true := by rfl)
    (hline : (apos.endLine == cpos.line) = true := by rfl) (hs : starEach [a] X.env = (false, eval a X.env) :: starEach [] X.env := by rfl) :
    ME X W (.Call (.Attribute o "join" apos) [a] [] cpos) (mSm1 fJoin mo ma) := by
  refine pe_imp (pe_bm PySem.F.plainAttrs_str PySem.F.slot_str_join PySem.F.type_str_join mt_join ho (pa_cons ha pa_nil hs) hbase hfew hline hs) fun σ H Q h => ?_
  obtain ⟨g, s, ok, h⟩ := h
  refine mSm1_of (fun g x y d z H Q sb ry e q => ?_) ok h
  unfold fJoin at e
  split at e
  · cases ry
    rename_i b us hb rz
    obtain ⟨ys, e1, hz, rfl⟩ := joinD_ok e
    have eu := strsOf_ok rz e1
    subst eu
    exact ⟨x, b, ys, rfl, rfl, .inl (.of (sb _ _ hb)), hz, q _ (.str _)⟩
  · cases ry
    rename_i b us hb rz
    obtain ⟨ys, e1, hz, rfl⟩ := joinD_ok e
    have eu := strsOf_ok rz e1
    subst eu
    exact ⟨x, b, ys, rfl, rfl, .inr (sqT_mono sb hb), hz, q _ (.str _)⟩
  · cases e
end

/-! ### x += e, ints -/
def mAug (i : Nat) (f : Int → Int → Int) (m : M) : S → Res Out := fun s => match s.env[i]? with
  | some (.val (.int a)) => (m s).bind fun r s1 => (match asInt r with
    | some b => (match assign i (.d (.int (f a b))) s1 with
      | some s2 => .ok .nx s2
      | none => .stuck)
    | none => .stuck)
  | _ => .stuck
section
variable {X : Cx} {W : WX} {e : Expr} {me : M} {pos : Pos}
theorem ms_aug {i : Nat} {x : Str} {f : Int → Int → Int} {op : Operator} {pos' : Pos} (hp : PIp X op (ipI f)) (he : ME X W e me) (hN : X.N.Nodup) (hi : X.N[i]? = some x := by rfl) (hx : L2.Loc X.env.scope x := by first | exact Or.inl rfl | exact Or.inr rfl)
    (hf : X.fn x = true ∨ X.env.scope.names.lookup x = some .local := by first | exact .inl rfl | exact .inr rfl) : MS X W (.AugAssign (.Name x pos') op e pos) (mAug i f me) := by
  refine ps_imp (ps_aug hN hi hx he hp hf) fun D σ H ⟨g, s, ok, h⟩ => ?_
  unfold mAug at h
  split at h
  · rename_i a e1
    obtain ⟨v, ev, rv⟩ := ok.env i _ e1
    cases rv
    refine ⟨.int a, ev, g, s, ok, (PostS.bind h).mono fun r g1 s1 H1 t1 k1 o1 h1 v rv => ?_⟩
    split at h1
    · rename_i b eb
      refine ⟨a, b, rfl, asInt_ok rv eb, ?_⟩
      split at h1
      · rename_i s2 e2
        obtain ⟨g2, t2, o2⟩ := assign_ok (v := .int (f a b)) o1 (show RepRV X.K g1 s1 H1 _ (.d _) from .int _) e2
        exact h1 _ g2 H1 t2 o2
      · exact h1.elim
    · exact h1.elim
  · exact h.elim
theorem ms_augAdd {i : Nat} {x : Str} {pos' : Pos} (he : ME X W e me) (hN : X.N.Nodup) (hi : X.N[i]? = some x := by rfl) (hx : L2.Loc X.env.scope x := by first | exact Or.inl rfl | exact Or.inr rfl)
    (hf : X.fn x = true ∨ X.env.scope.names.lookup x = some .local := by first | exact .inl rfl | exact .inr rfl) : MS X W (.AugAssign (.Name x pos') .Add e pos) (mAug i (fun a b => a + b) me) := ms_aug ip_add he hN hi hx hf
theorem ms_augSub {i : Nat} {x : Str} {pos' : Pos} (he : ME X W e me) (hN : X.N.Nodup) (hi : X.N[i]? = some x := by rfl) (hx : L2.Loc X.env.scope x := by first | exact Or.inl rfl | exact Or.inr rfl)
    (hf : X.fn x = true ∨ X.env.scope.names.lookup x = some .local := by first | exact .inl rfl | exact .inr rfl) : MS X W (.AugAssign (.Name x pos') .Sub e pos) (mAug i (fun a b => a - b) me) := ms_aug ip_sub he hN hi hx hf
end
end MI
/-! # Ranges by steps, targets in one another, dicts, sorting -/
namespace MI
open PySem PySem.Spec PyProof.Rows L2

/-! ### range(a, b, c) -/
def rangeC (lo c : Int) : Nat → List D
  | 0 => []
  | n + 1 => .int lo :: rangeC (lo + c) c n
theorem rangeC_len : ∀ (n : Nat) (lo c : Int), (rangeC lo c n).length = n
  | 0, _, _ => rfl
  | n + 1, lo, c => by rw [rangeC, List.length_cons, rangeC_len n]
theorem rangeC_get : ∀ (n : Nat) (lo c : Int) (i : Nat) (d : D), (rangeC lo c n)[i]? = some d → i < n ∧ d = .int (lo + (i : Nat) * c)
  | 0, _, _, _, _, e => by simp [rangeC] at e
  | n + 1, lo, c, 0, d, e => by simp [rangeC] at e; subst e; simp
  | n + 1, lo, c, i + 1, d, e => by
    obtain ⟨h1, h2⟩ := rangeC_get n (lo + c) c i d (by simpa [rangeC] using e)
    refine ⟨by omega, ?_⟩
    rw [h2]
    congr 1
    have : ((i + 1 : Nat) : Int) * c = (i : Int) * c + c := by rw [Int.natCast_succ, Int.add_mul, Int.one_mul]
    omega
theorem rng3_ex (i j c : Int) : ∃ r : Option (List D), r = if c ≠ 0 ∧ c.natAbs < 1073741824 ∧ Builtin.Range.small i j c = true ∧ 0 ≤ Builtin.Range.rangeSize i j c then some (rangeC i c (Builtin.Range.rangeSize i j c).toNat) else none := ⟨_, rfl⟩
noncomputable def rng3 (i j c : Int) : Option (List D) := Classical.choose (rng3_ex i j c)
theorem rng3_eq (i j c : Int) : rng3 i j c = if c ≠ 0 ∧ c.natAbs < 1073741824 ∧ Builtin.Range.small i j c = true ∧ 0 ≤ Builtin.Range.rangeSize i j c then some (rangeC i c (Builtin.Range.rangeSize i j c).toNat) else none := Classical.choose_spec (rng3_ex i j c)
noncomputable def iRange3 (m : S → Res (List D)) : S → Res (List D) := fun s => (m s).bind fun ds s1 => match ds with
  | [.int i, .int j, .int c] => (match rng3 i j c with
    | some l => .ok l s1
    | none => .stuck)
  | _ => .stuck
theorem walk_rngC {K : PySem.W.Frag} {g : G} {lo c : Int} {n : Nat} : Walk K (Itc lo c n) (rangeC lo c n) g := by
  intro g' s' σ' H' l ok
  refine ⟨by rw [rangeC_len]; exact Nat.le_refl _, fun i d e => ?_⟩
  obtain ⟨h1, rfl⟩ := rangeC_get n lo c i d e
  refine ⟨h1, fun x H'' ⟨e1, e2⟩ => ?_⟩
  subst e1 e2
  exact ⟨g', Step.refl _ _, SlKeep.refl _, ok, .int _⟩
section
variable {X : Cx} {W : WX} {tg a b c : Expr} {m : S → Res (List D)} {p pos : Pos}
theorem mi_range3 (ha : MA X W [a, b, c] m) (hg : Gl X "range") (hm : X.mg "range" = none) (hs : starEach [a, b, c] X.env = (false, eval a X.env) :: starEach [b, c] X.env := by rfl) (hpl : (backTo pos (starEach [b, c] X.env)).any (·.1) = false := by rfl) : MIt X W tg (.Call (.Name "range" p) [a, b, c] [] pos) (iRange3 m) := by
  refine pi_imp (pi_range3 hg hm ha hs hpl) fun σ H R h => ?_
  obtain ⟨g, s, ok, h⟩ := h
  refine ⟨g, s, ok, (PostE.bind h).mono fun ds g1 s1 H1 t1 k1 o1 h1 vs rs => ?_⟩
  split at h1
  · cases rs with
    | cons r1 rs =>
      cases rs with
      | cons r2 rs =>
        cases rs with
        | cons r3 rs =>
          cases rs
          cases r1; cases r2; cases r3
          split at h1
          · rename_i hz
            rw [rng3_eq] at hz
            split at hz
            · rename_i hz2
              cases hz
              exact ⟨_, _, _, _, rfl, ⟨hz2.1, hz2.2.1, hz2.2.2.1, by have := hz2.2.2.2; omega⟩, PostE.done h1 o1 _ walk_rngC⟩
            · cases hz
          · exact h1.elim
  · exact h1.elim
end
theorem rng3_up {i j c : Int} (h0 : -1000000 ≤ i) (h1 : i ≤ 1000000) (h2 : -1000000 ≤ j) (h3 : j ≤ 1000000) (h4 : 0 < c) (h5 : c ≤ 1000000) : rng3 i j c = some (rangeC i c (if i < j then (j - i - 1) / c + 1 else 0).toNat) := by
  have e : Builtin.Range.rangeSize i j c = if i < j then (j - i - 1) / c + 1 else 0 := by unfold Builtin.Range.rangeSize; rw [if_pos h4]
  have q : i < j → 0 ≤ (j - i - 1) / c ∧ (j - i - 1) / c * c ≤ j - i - 1 ∧ (j - i - 1) / c ≤ j - i - 1 := fun h =>
    ⟨Int.ediv_nonneg (by omega) (by omega), Int.ediv_mul_le _ (by omega), Int.ediv_le_self _ (by omega)⟩
  rw [rng3_eq, e, if_pos]
  refine ⟨by omega, by omega, ?_, by split; (rename_i h; have := (q h).1; omega); omega⟩
  unfold Builtin.Range.small
  rw [e]
  simp only [Builtin.Range.rangeFitsLong, Bool.and_eq_true, Bool.or_eq_true, decide_eq_true_eq, beq_iff_eq, h4, if_true]
  by_cases h : i < j
  · obtain ⟨q1, q2, q3⟩ := q h
    simp only [h, if_true]
    generalize (j - i - 1) / c = z at q1 q2 q3 ⊢
    refine ⟨⟨⟨⟨⟨?_, ?_⟩, ?_, ?_⟩, ?_, ?_⟩, ?_, ?_⟩, .inr ⟨?_, ?_⟩⟩ <;> omega
  · simp only [h, if_false]
    refine ⟨⟨⟨⟨⟨?_, ?_⟩, ?_, ?_⟩, ?_, ?_⟩, ?_, ?_⟩, .inl ?_⟩ <;> first | omega | rfl | simp
theorem rng3_down {i j : Int} (h0 : -1000000 ≤ i) (h1 : i ≤ 1000000) (h2 : -1000000 ≤ j) (h3 : j ≤ 1000000) : rng3 i j (-1) = some (rangeC i (-1) (i - j).toNat) := by
  rw [rng3_eq, PySem.W.rangeSize_downNat, if_pos ⟨by omega, by decide, PySem.W.small_down (by omega) (by omega) (by omega) (by omega), by omega⟩]
  congr 2
end MI
/-! # Targets in one another, dicts, sorting -/
namespace MI
open PySem PySem.Spec PyProof.Rows L2

/-! ### targets in one another -/
def tgsNil : List D → S → Option S := fun ds s => match ds with
  | [] => some s
  | _ => none
def tgsCons (t : D → S → Option S) (ts : List D → S → Option S) : List D → S → Option S := fun ds s => match ds with
  | d :: ds => (match t d s with
    | some s1 => ts ds s1
    | none => none)
  | [] => none
def tgT (ts : List D → S → Option S) : D → S → Option S := fun d s => match d with
  | .tup ds => ts ds s
  | .lst ds => ts ds s
  | _ => none
theorem setAll_app : ∀ {is js : List Nat} {ws us : List V} {σ : L2.St}, is.length = ws.length → setAll σ (is ++ js) (ws ++ us) = setAll (setAll σ is ws) js us
  | [], js, [], us, σ, _ => rfl
  | i :: is, js, w :: ws, us, σ, h => by
    show setAll (σ.set i (some w)) (is ++ js) (ws ++ us) = _
    exact setAll_app (by simpa using h)
  | [], _, _ :: _, _, _, h => by simp at h
  | _ :: _, _, [], _, _, h => by simp at h
def MGk2 (K : PySem.W.Frag) (gt : TG) (is : List Nat) (t : D → S → Option S) : Prop :=
  ∀ g s σ H v d s', Ok K g s σ H → Rep K g v d → t d s = some s' → ∃ ws, is.length = ws.length ∧ Ok K g s' (setAll σ is ws) H ∧ ∀ Q : L2.St → Hp → Prop, Q (setAll σ is ws) H → gt v σ H Q
def MGks (K : PySem.W.Frag) (n : Nat) (gt : TGs) (is : List Nat) (t : List D → S → Option S) : Prop :=
  ∀ g s σ H vs ds s', Ok K g s σ H → RepL K g vs ds → t ds s = some s' → ∃ ws, is.length = ws.length ∧ vs.length = n ∧ Ok K g s' (setAll σ is ws) H ∧ ∀ Q : L2.St → Hp → Prop, Q (setAll σ is ws) H → gt vs σ H Q
structure MG2 (X : Cx) (tg : Expr) (gt : TG) (is : List Nat) (t : D → S → Option S) : Prop where
  pg : PG X tg gt
  ok : MGk2 X.K gt is t
structure MGs (X : Cx) (es : List Expr) (n : Nat) (gt : TGs) (is : List Nat) (t : List D → S → Option S) : Prop where
  pg : PGs X es gt
  ok : MGks X.K n gt is t
theorem MG2.mg {X : Cx} {tg : Expr} {gt : TG} {is : List Nat} {t : D → S → Option S} (h : MG2 X tg gt is t) : MG X tg gt is t :=
  ⟨h.pg, fun g s σ H v d s' ok r e => by obtain ⟨ws, _, o, q⟩ := h.ok g s σ H v d s' ok r e; exact ⟨ws, o, q⟩⟩
section
variable {X : Cx} {W : WX} {e : Expr} {es : List Expr} {me : M} {pos : Pos} {gt : TG} {gts : TGs} {is js : List Nat} {t : D → S → Option S} {ts : List D → S → Option S} {n : Nat}
theorem mg2_name {i : Nat} {x : Str} (hN : X.N.Nodup) (hi : X.N[i]? = some x := by rfl) (hx : L2.Loc X.env.scope x := by first | exact Or.inl rfl | exact Or.inr rfl) (hf : X.fn x = true ∨ X.env.scope.names.lookup x = some .local := by first | exact .inl rfl | exact .inr rfl) :
    MG2 X (.Name x pos) (gName i) [i] (tgName i) := ⟨pg_name hN hi hx hf, fun g s σ H v d s' ok r e => by
  simp only [tgName, MI.assign] at e
  split at e
  · rename_i hl
    cases e
    exact ⟨[v], rfl, ok.setVal r hl, fun Q q => q⟩
  · cases e⟩
theorem mgs2_nil : MGs X [] 0 gNil [] tgsNil := ⟨pgs_nil, fun g s σ H vs ds s' ok r e => by
  cases r with
  | nil => cases e; exact ⟨[], rfl, rfl, ok, fun Q q => ⟨rfl, q⟩⟩
  | cons _ _ => cases e⟩
theorem mgs2_cons (h1 : MG2 X e gt is t) (h2 : MGs X es n gts js ts) (hs : (assignEach (e :: es) X.env).map (·.2) = PySem.assign e X.env :: (assignEach es X.env).map (·.2) := by rfl) :
    MGs X (e :: es) (n + 1) (gCons gt gts) (is ++ js) (tgsCons t ts) := ⟨pgs_cons h1.pg h2.pg hs, fun g s σ H vs ds s' ok r e => by
  cases r with
  | nil => cases e
  | @cons v vs d ds r1 r2 =>
    have e' : (match t d s with
      | some s1 => ts ds s1
      | none => none) = some s' := e
    cases e1 : t d s with
    | none => rw [e1] at e'; cases e'
    | some s1 =>
      rw [e1] at e'
      obtain ⟨ws, l1, o1, q1⟩ := h1.ok g s σ H v d s1 ok r1 e1
      obtain ⟨us, l2, l3, o2, q2⟩ := h2.ok g s1 _ H vs ds s' o1 r2 e'
      refine ⟨ws ++ us, by rw [List.length_append, List.length_append, l1, l2], by rw [List.length_cons, l3], by rw [setAll_app l1]; exact o2, fun Q q => ?_⟩
      rw [setAll_app l1] at q
      exact ⟨v, vs, rfl, q1 _ (q2 Q q)⟩⟩
theorem pg_or {tg : Expr} {t t' : TG} (h : PG X tg t) (h' : PG X tg t') : PG X tg (fun v σ H Q => t v σ H Q ∨ t' v σ H Q) :=
  ⟨fun pins s σ H v u Q I r q => q.elim (h.run pins s σ H v u Q I r) (h'.run pins s σ H v u Q I r)⟩
theorem mg2_tup {k : Nat} (hc : X.calm = true) (h : MGs X es n gts is ts) (hn : (assignEach es X.env).length = n := by rfl) (hst : (assignEach es X.env).findIdx? (·.1) = none := by rfl) :
    MG2 X (.Tuple es k pos) (fun v σ H Q => gTup X.K n gts v σ H Q ∨ gLst X.K n gts v σ H Q) is (tgT ts) := ⟨pg_or (pg_tup hc h.pg hn hst) (pg_lst hc h.pg hn hst), fun g s σ H v d s' ok r e => by
  unfold tgT at e
  split at e
  · cases r with
    | tup hq rl =>
      obtain ⟨ws, l1, l2, o, q⟩ := h.ok g s σ H _ _ s' ok rl e
      exact ⟨ws, l1, o, fun Q z => .inl ⟨_, _, rfl, sqT_mono ok.sub hq, l2, q Q z⟩⟩
  · cases r with
    | lst hq rl =>
      obtain ⟨ws, l1, l2, o, q⟩ := h.ok g s σ H _ _ s' ok rl e
      exact ⟨ws, l1, o, fun Q z => .inr ⟨_, _, rfl, .of (ok.sub _ _ hq), l2, q Q z⟩⟩
  · cases e⟩
def mUnpT (t : D → S → Option S) (m : M) : S → Res Out := fun s => (mLeak m s).bind fun d s1 => match t d s1 with
  | some s2 => .ok .nx s2
  | none => .stuck
theorem ms_unpT {tg : Expr} (he : ME X W e me) (hg : MG2 X tg gt is t)
    (hs : swapsWithSole [tg] e pos.line X.env = pure false := by rfl) (hw : swappedStores [tg] e X.env = pure none := by rfl)
    (h1 : (assignEach [tg] X.env).map (·.2) = [PySem.assign tg X.env] := by rfl) :
    MS X W (.Assign [tg] e pos) (mUnpT t me) := by
  refine ps_imp (ps_asg he hg.pg hs hw h1) fun D σ H ⟨g, s, ok, h⟩ => ?_
  refine tM_leak ok (PostS.bind h) fun d g1 s1 H1 v t1 k1 o1 rv h1 => ?_
  split at h1
  · rename_i s2 e2
    obtain ⟨ws, _, o2, q⟩ := hg.ok g1 s1 σ H1 v d s2 o1 rv e2
    exact q _ (h1 _ g1 H1 (Step.refl _ _) o2)
  · exact h1.elim
end

/-! ### dicts -/
def keyOf : D → Option Key
  | .int i => some (.inl i)
  | .str x => some (.inr x)
  | _ => none
theorem keyOf_ok {K : PySem.W.Frag} {g : G} {v : V} {d : D} {k : Key} (r : Rep K g v d) (e : keyOf d = some k) : v = kV k := by
  cases r with
  | int i => cases e; rfl
  | str x => cases e; rfl
  | _ => cases e
def dval (kvs : List (Key × D)) (k : Key) : Option D := (kvs.find? fun kv => decide (kv.1 = k)).map (·.2)
def dput (kvs : List (Key × D)) (k : Key) (v : D) : List (Key × D) :=
  if (kvs.any fun kv => decide (kv.1 = k)) = true then kvs.map (fun kv => if kv.1 = k then (kv.1, v) else kv) else kvs ++ [(k, v)]
section
variable {K : PySem.W.Frag} {g : G}
theorem RepK.val : ∀ {vs : List (Key × V)} {ds : List (Key × D)} (k : Key), RepK K g vs ds → (∀ d, dval ds k = some d → ∃ v, valV vs k = some v ∧ Rep K g v d) ∧ (dval ds k = none → valV vs k = none)
  | _, _, k, .nil => ⟨fun d e => (nomatch e), fun _ => rfl⟩
  | _, _, k, .cons (k := j) (v := v) (vs := vs) (d := d) (ds := ds) a b => by
    by_cases h : j = k
    · subst h
      have e1 : dval ((j, d) :: ds) j = some d := by simp [dval]
      have e2 : valV ((j, v) :: vs) j = some v := valV_pos rfl
      exact ⟨fun z e => by rw [e1] at e; cases e; exact ⟨v, e2, a⟩, fun e => by rw [e1] at e; cases e⟩
    · have e1 : dval ((j, d) :: ds) k = dval ds k := by simp [dval, h]
      have e2 : valV ((j, v) :: vs) k = valV vs k := valV_neg h
      rw [e1, e2]
      exact RepK.val k b
theorem RepK.any : ∀ {vs : List (Key × V)} {ds : List (Key × D)} (k : Key), RepK K g vs ds → (vs.any fun kv => decide (kv.1 = k)) = ds.any fun kv => decide (kv.1 = k)
  | _, _, k, .nil => rfl
  | _, _, k, .cons (k := j) a b => by rw [List.any_cons, List.any_cons, RepK.any k b]
theorem RepK.repl {y : V} {x : D} (r : Rep K g y x) : ∀ {vs : List (Key × V)} {ds : List (Key × D)} (k : Key), RepK K g vs ds → RepK K g (vs.map fun kv => if kv.1 = k then (kv.1, y) else kv) (ds.map fun kv => if kv.1 = k then (kv.1, x) else kv)
  | _, _, k, .nil => .nil
  | _, _, k, .cons (k := j) (v := v) (vs := vs) (d := d) (ds := ds) a b => by
    rw [List.map_cons, List.map_cons]
    by_cases h : j = k
    · simp only [h, if_true]; exact .cons r (RepK.repl r k b)
    · simp only [h, if_false]; exact .cons a (RepK.repl r k b)
theorem RepK.snoc {y : V} {x : D} (r : Rep K g y x) (k : Key) : ∀ {vs : List (Key × V)} {ds : List (Key × D)}, RepK K g vs ds → RepK K g (vs ++ [(k, y)]) (ds ++ [(k, x)])
  | _, _, .nil => .cons r .nil
  | _, _, .cons a b => .cons a (RepK.snoc r k b)
theorem RepK.put {vs : List (Key × V)} {ds : List (Key × D)} {y : V} {x : D} (h : RepK K g vs ds) (k : Key) (r : Rep K g y x) : RepK K g (putK vs k y) (dput ds k x) := by
  unfold putK dput
  rw [h.any k]
  by_cases z : (ds.any fun kv => decide (kv.1 = k)) = true
  · rw [if_pos z, if_pos z]; exact RepK.repl r k h
  · rw [if_neg z, if_neg z]; exact RepK.snoc r k h
theorem RepK.keys : ∀ {vs : List (Key × V)} {ds : List (Key × D)}, RepK K g vs ds → vs.map (·.1) = ds.map (·.1)
  | _, _, .nil => rfl
  | _, _, .cons a b => by rw [List.map_cons, List.map_cons, RepK.keys b]
end
/-- {} -/
def mDNew : M := fun s => .ok (.new (.dic [])) s
/-- d[k] -/
def mDGet (d k : M) : M := fun s => (mSettle d s).bind fun r s1 => (mLeak k s1).bind fun y s2 => match asDic s2 r, keyOf y with
  | some kvs, some k => (match dval kvs k with
    | some x => .ok (.d x) s2
    | none => .stuck)
  | _, _ => .stuck
/-- d.get(k, x) -/
def mDGet2 (d k x : M) : M := fun s => (mSettle d s).bind fun r s1 => match asDic s1 r with
  | some _ => (mLeak k s1).bind fun y s2 => (mLeak x s2).bind fun z s3 => (match asDic s3 r, keyOf y with
    | some kvs, some k => .ok (.d ((dval kvs k).getD z)) s3
    | _, _ => .stuck)
  | none => .stuck
/-- d[k] = v -/
def mDPut (v o k : M) : S → Res Out := fun s => (mLeak v s).bind fun d s1 => (o s1).bind fun r s2 => match locOf r with
  | some l => (match cellOf s2 l with
    | some _ => (mLeak k s2).bind fun y s3 => (match cellOf s3 l, keyOf y with
      | some (.dic kvs), some k => if kvs.length < sizeLine then .ok .nx (setCell s3 l (.dic (dput kvs k d))) else .stuck
      | _, _ => .stuck)
    | _ => .stuck)
  | none => .stuck
theorem hu1 {A : Around} (h : A.units + 64 < cLine) : A.units + 1 < cLine := by omega
section
variable {X : Cx} {W : WX} {d k x o e : Expr} {md mk mx mo me : M} {pos pos' apos cpos : Pos}
theorem me_dnew : ME X W (.Dict [] [] pos) mDNew := pe_imp pe_dnewK fun σ H Q ⟨g, s, ok, h⟩ p hp => kE_new h ok hp ⟨[], upd_same, .nil⟩
theorem me_dget (hu : X.A.units + 64 < cLine) (hd : ME X W d md) (hk : ME X W k mk) (hs : NoSl k := by exact fun _ _ => rfl) : ME X W (.Subscript d k pos) (mDGet md mk) := by
  refine pe_imp (pe_dget (hu1 hu) hd hk hs) fun σ H Q ⟨g, s, ok, h⟩ => ?_
  refine tM_settle ok (PostE.bind h) fun r g1 s1 H1 v t1 k1 o1 rv nn h1 => ?_
  refine tM_leak o1 (PostE.bind h1) fun y g2 s2 H2 u t2 k2 o2 ru h2 => ?_
  split at h2
  · rename_i kvs key e1 e2
    split at h2
    · rename_i z e3
      obtain ⟨a, vs, rfl, hq, rk⟩ := asDic_ok o2 (rv.held nn t2 k2) e1
      obtain ⟨w, hw, rw'⟩ := (rk.val key).1 z e3
      refine ⟨a, w, rfl, ?_, kE_d h2 o2 rw'⟩
      rw [keyOf_ok ru e2, ← hw]
      exact .k hq
    · exact h2.elim
  · exact h2.elim
theorem me_dget2 (hu : X.A.units + 64 < cLine) (hd : ME X W d md) (hk : ME X W k mk) (hx : ME X W x mx) (m : M2 X d "get" apos k x cpos := by exact ⟨rfl, rfl, rfl, rfl⟩) : ME X W (.Call (.Attribute d "get" apos) [k, x] [] cpos) (mDGet2 md mk mx) := by
  refine pe_imp (L2.pe_dget2 (hu1 hu) hd hk hx m) fun σ H Q ⟨g, s, ok, h⟩ => ?_
  refine tM_settle ok (PostE.bind h) fun r g1 s1 H1 v t1 k1 o1 rv nn h1 => ?_
  split at h1
  · rename_i kvs0 e0
    obtain ⟨a, vs0, rfl, hq0, _⟩ := asDic_ok o1 rv e0
    refine ⟨a, rfl, .inl ⟨vs0, .inl hq0⟩, ?_⟩
    refine tM_leak o1 (PostE.bind h1) fun y g2 s2 H2 u t2 k2 o2 ru h2 => ?_
    refine tM_leak o2 (PostE.bind h2) fun z g3 s3 H3 w t3 k3 o3 rw' h3 => ?_
    split at h3
    · rename_i kvs key e1 e2
      obtain ⟨a', vs, ea, hq, rk⟩ := asDic_ok o3 (RepRV.held (s := s2) (s' := s3) nn t3 k3 (RepRV.held (s := s1) (s' := s2) nn t2 k2 rv)) e1
      cases ea
      refine ⟨valV vs key, ?_, ?_⟩
      · rw [keyOf_ok ru e2]; exact .k hq
      · cases e3 : dval kvs key with
        | none =>
          rw [(rk.val key).2 e3]
          rw [e3] at h3
          exact kE_d h3 o3 rw'
        | some q =>
          obtain ⟨b, hb, rb⟩ := (rk.val key).1 q e3
          rw [hb]
          rw [e3] at h3
          exact kE_d h3 o3 rb
    · exact h3.elim
  · exact h1.elim
theorem ms_dput (hu : X.A.units + 64 < cLine) (hv : ME X W e me) (ho : ME X W o mo) (hk : ME X W k mk) (hs : swapsWith e (some (.Subscript o k pos')) pos.line X.env = pure false := by rfl) :
    MS X W (.Assign [.Subscript o k pos'] e pos) (mDPut me mo mk) := by
  refine ps_imp (ps_dput (hu1 hu) ho hk hv hs) fun D σ H h => ?_
  obtain ⟨g, s, ok, h⟩ := h
  refine tM_leak ok (k := fun d g1 s1 H1 => PostS X.K W g1 s1 H1 D ((mo s1).bind fun r s2 => match locOf r with
  | some l => (match cellOf s2 l with
    | some _ => (mLeak mk s2).bind fun y s3 => (match cellOf s3 l, keyOf y with
      | some (.dic kvs), some k => if kvs.length < sizeLine then .ok .nx (setCell s3 l (.dic (dput kvs k d))) else .stuck
      | _, _ => .stuck)
    | _ => .stuck)
  | none => .stuck)) (PostS.bind h) fun d g1 s1 H1 v t1 k1 o1 rv h1 => ?_
  refine ⟨g1, s1, o1, (PostS.bind h1).mono fun r g2 s2 H2 t2 k2 o2 h2 u ru => ?_⟩
  split at h2
  · rename_i l e1
    have hu := locOf_ok ru e1
    subst hu
    split at h2
    · rename_i w e2
      refine tM_leak o2 (PostS.bind h2) fun dk g3 s3 H3 y t3 k3 o3 ry h3 => ?_
      have el := loc_held o2 e2 t3 k3
      split at h3
      · rename_i kvs key e3 e4
        split at h3
        · rename_i hz
          obtain ⟨vs, hvs, rvs⟩ := (o3.cell l _ e3).2
          have rd := (rv.mono t2.le).mono t3.le
          obtain ⟨o4, t4⟩ := o3.change (o' := .dic (dput kvs key d)) (ho := .dK (putK vs key v)) e3 ⟨_, upd_same, rvs.put key rd⟩
          refine ⟨_, upd H3 (g3.adr l) (.dK (putK vs key v)), rfl, ?_, h3 _ _ _ t4 o4⟩
          rw [keyOf_ok ry e4, ← el]
          exact .k hvs (by rw [RepK.length rvs]; exact hz)
        · exact h3.elim
      · exact h3.elim
    · exact h2.elim
  · exact h2.elim
end
end MI
namespace MI
open PySem PySem.Spec PyProof.Rows L2
/-! ### sorting -/
theorem perm_sorted_eq {α : Type} {le : α → α → Prop} (anti : ∀ a b, le a b → le b a → a = b) : ∀ {l m : List α}, l.Perm m → l.Pairwise le → m.Pairwise le → l = m
  | [], m, p, _, _ => (List.nil_perm.mp p).symm
  | a :: l, [], p, _, _ => absurd p.length_eq (by simp)
  | a :: l, b :: m, p, hl, hm => by
    obtain ⟨h1, h2⟩ := List.pairwise_cons.mp hl
    obtain ⟨h3, h4⟩ := List.pairwise_cons.mp hm
    have e : a = b := by
      have m1 : a ∈ b :: m := p.mem_iff.mp List.mem_cons_self
      have m2 : b ∈ a :: l := p.mem_iff.mpr List.mem_cons_self
      rcases List.mem_cons.mp m1 with m1 | m1
      · exact m1
      · rcases List.mem_cons.mp m2 with m2 | m2
        · exact m2.symm
        · exact anti a b (h1 b m2) (h3 a m1)
    subst e
    rw [perm_sorted_eq anti (List.Perm.cons_inv p) h2 h4]
def leS (x y : Str) : Bool := !strLt y x
theorem leS_iff (x y : Str) : leS x y = true ↔ x.cps.toList ≤ y.cps.toList := by
  unfold leS strLt
  rw [Bool.not_eq_true', decide_eq_false_iff_not]
  exact List.not_lt
theorem str_eq {x y : Str} (h : x.cps.toList = y.cps.toList) : x = y := by
  obtain ⟨⟨a⟩⟩ := x
  obtain ⟨⟨b⟩⟩ := y
  simp only at h
  rw [h]
theorem leS_anti (x y : Str) (h : leS x y = true) (h2 : leS y x = true) : x = y := str_eq (List.le_antisymm ((leS_iff x y).mp h) ((leS_iff y x).mp h2))
theorem leS_trans (x y z : Str) (h : leS x y = true) (h2 : leS y z = true) : leS x z = true := (leS_iff x z).mpr (List.le_trans ((leS_iff x y).mp h) ((leS_iff y z).mp h2))
theorem leS_total (x y : Str) : (leS x y || leS y x) = true := by
  rw [Bool.or_eq_true, leS_iff, leS_iff]
  exact List.le_total _ _
def sortS (l : List Str) : List Str := l.mergeSort leS
theorem sortS_perm (l : List Str) : (sortS l).Perm l := List.mergeSort_perm l leS
theorem sortS_sorted (l : List Str) : (sortS l).Pairwise fun x y => leS x y = true := List.pairwise_mergeSort leS_trans leS_total l
theorem sortedS_pw : ∀ {l : List Str}, sortedS l = true → l.Pairwise fun x y => leS x y = true := by
  have key : ∀ (l : List Str) (p : Str), risingS p l = true → (∀ y ∈ l, leS p y = true) ∧ l.Pairwise fun x y => leS x y = true := by
    intro l
    induction l with
    | nil => intro p _; exact ⟨fun _ h => (nomatch h), List.Pairwise.nil⟩
    | cons x r ih =>
      intro p h
      unfold risingS at h
      obtain ⟨h1, h2⟩ := Bool.and_eq_true_iff.mp h
      obtain ⟨h3, h4⟩ := ih x h2
      have hp : leS p x = true := by unfold leS strLt; rw [ltCps_eq] at h1; exact h1
      refine ⟨fun y m => ?_, List.pairwise_cons.mpr ⟨h3, h4⟩⟩
      rcases List.mem_cons.mp m with rfl | m
      · exact hp
      · exact leS_trans p x y hp (h3 y m)
  intro l h
  cases l with
  | nil => exact List.Pairwise.nil
  | cons x r => obtain ⟨h3, h4⟩ := key r x h; exact List.pairwise_cons.mpr ⟨h3, h4⟩
theorem sortS_uniq {l m : List Str} (p : m.Perm l) (h : sortedS m = true) : m = sortS l :=
  perm_sorted_eq (le := fun x y => leS x y = true) leS_anti (p.trans (sortS_perm l).symm) (sortedS_pw h) (sortS_sorted l)
def sortI (l : List Int) : List Int := l.mergeSort fun i j => decide (i ≤ j)
theorem sortI_perm (l : List Int) : (sortI l).Perm l := List.mergeSort_perm l _
theorem sortI_sorted (l : List Int) : (sortI l).Pairwise fun x y => x ≤ y := by
  have := List.pairwise_mergeSort (le := fun i j : Int => decide (i ≤ j)) (fun a b c h1 h2 => by simp at *; omega) (fun a b => by simp; omega) l
  exact this.imp fun h => by simpa using h
theorem sortI_uniq {l m : List Int} (p : m.Perm l) (h : m.Pairwise fun x y => x ≤ y) : m = sortI l :=
  perm_sorted_eq (le := fun x y : Int => x ≤ y) (fun a b h1 h2 => by omega) (p.trans (sortI_perm l).symm) h (sortI_sorted l)
def keysS : List (Key × D) → Option (List Str)
  | [] => some []
  | (.inr x, _) :: r => (keysS r).map (x :: ·)
  | _ :: _ => none
theorem keysS_ok : ∀ {kvs : List (Key × D)} {ks : List Str}, keysS kvs = some ks → kvs.map (·.1) = ks.map Sum.inr
  | [], ks, e => by cases e; rfl
  | (.inr x, d) :: r, ks, e => by
    simp only [keysS] at e
    obtain ⟨k', e1, rfl⟩ := Option.map_eq_some_iff.mp e
    rw [List.map_cons, List.map_cons, keysS_ok e1]
  | (.inl x, d) :: r, ks, e => by cases e
def fSorted : S → RV → Res RV := fun s r => match asD s r with
  | some (.dic kvs) => (match keysS kvs with
    | some ks => if ks.length < 64 then .ok (.new (.lst ((sortS ks).map .str))) s else .stuck
    | none => .stuck)
  | some (.lst xs) => (match strsOf xs with
    | some ks => if ks.length < 64 then .ok (.new (.lst ((sortS ks).map .str))) s else .stuck
    | none => (match intsOf xs with
      | some is => .ok (.new (.lst ((sortI is).map .int))) s
      | none => .stuck))
  | _ => .stuck
theorem intsOf_ok {K : PySem.W.Frag} {g : G} : ∀ {vs : List V} {ds : List D} {bs : List Int}, RepL K g vs ds → intsOf ds = some bs → vs = bs.map V.int
  | _, _, _, .nil, e => by cases e; rfl
  | _, _, bs, .cons (d := d) a b, e => by
    cases d with
    | int k =>
      cases a
      simp only [intsOf] at e
      obtain ⟨cs, e1, rfl⟩ := Option.map_eq_some_iff.mp e
      rw [intsOf_ok b e1]; rfl
    | _ => cases e
theorem repL_strs {K : PySem.W.Frag} {g : G} : ∀ ks : List Str, RepL K g (ks.map V.str) (ks.map D.str)
  | [] => .nil
  | k :: ks => .cons (.str k) (repL_strs ks)
theorem repL_ints {K : PySem.W.Frag} {g : G} : ∀ ks : List Int, RepL K g (ks.map V.int) (ks.map D.int)
  | [] => .nil
  | k :: ks => .cons (.int k) (repL_ints ks)
section
variable {X : Cx} {W : WX} {a : Expr} {ma : M} {pos p : Pos}
theorem cr_sortedA (hc : X.calm = true) : CallR X (.builtin "sorted") (fun xs H Q => rSortedS X.K xs H Q ∨ rSortedI X.K xs H Q ∨ (∃ (a : Addr) (kvs : List (Key × V)) (ks : List Str), xs = [.ref a] ∧ Rd H a (.dK kvs) ∧ kvs.map (·.1) = ks.map Sum.inr ∧ ks.length < 64 ∧
    ∀ ys p, ys.Perm ks → sortedS ys = true → H p = none → Q (.ref p) (upd H p (.lst (ys.map V.str))))) := by
  intro pins s σ H xs us Q I r h
  rcases h with h | h | h
  · exact cr_sortedS pins s σ H xs us Q I r h
  · exact cr_sortedI pins s σ H xs us Q I r h
  · exact call_sortedD hc pins s σ H xs us Q I r h
theorem me_sorted (hc : X.calm = true) (ha : ME X W a ma) (hg : Gl X "sorted") (hm : X.mg "sorted" = none) (hs : starEach [a] X.env = (false, eval a X.env) :: starEach [] X.env := by rfl) : ME X W (.Call (.Name "sorted" p) [a] [] pos) (mFn1 fSorted ma) := by
  refine pe_imp (pe_callB (cr_sortedA hc) hg hm (by decide +kernel) (pa_cons ha pa_nil hs) (he := hs)) fun σ H Q ⟨g, s, ok, h⟩ => ma_one (fun σ g s H Q v rv ok rr h => ?_) ok h
  unfold fSorted at h
  split at h
  · rename_i kvs e
    obtain ⟨g1, l, sb, rp⟩ := asD_ok ok (GLe.refl g) ok.sub rr e
    cases rp with
    | @dic b vs _ h1 r1 =>
      split at h
      · rename_i ks e2
        split at h
        · rename_i h64
          refine .inr (.inr ⟨b, vs, ks, rfl, .inl (sb _ _ h1), r1.keys.trans (keysS_ok e2), h64, fun ys p hp hy hn => ?_⟩)
          have := sortS_uniq hp hy
          subst this
          exact kE_new h ok hn ⟨_, upd_same, repL_strs _⟩
        · exact h.elim
      · exact h.elim
  · rename_i xs e
    obtain ⟨g1, l, sb, rp⟩ := asD_ok ok (GLe.refl g) ok.sub rr e
    cases rp with
    | @lst b vs _ h1 r1 =>
      split at h
      · rename_i ks e2
        split at h
        · rename_i h64
          have ev := strsOf_ok r1 e2
          subst ev
          refine .inl ⟨b, ks, rfl, .of (sb _ _ h1), h64, fun ys p hp hy hn => ?_⟩
          have := sortS_uniq hp hy
          subst this
          exact kE_new h ok hn ⟨_, upd_same, repL_strs _⟩
        · exact h.elim
      · split at h
        · rename_i is e2
          have ev := intsOf_ok r1 e2
          subst ev
          refine .inr (.inl ⟨b, is, rfl, .of (sb _ _ h1), fun ys p hp hy hn => ?_⟩)
          have := sortI_uniq hp hy
          subst this
          exact kE_new h ok hn ⟨_, upd_same, repL_ints _⟩
        · exact h.elim
  · exact h.elim
end
end MI
/-! # Sets of ints and texts made of a list, sorted and counted -/
namespace MI
open PySem PySem.Spec PyProof.Rows L2
/-- the key of an entry -/
def kyE (e : Int × Value) : Key := match e.2 with
  | .int i _ => .inl i
  | .str x _ => .inr x
  | _ => .inl 0
def GdK (w : World) (e : Int × Value) : Prop := ∃ k, keyIs k e.2 = true ∧ e.1 = keyH w k
/-- a key put to keys -/
def insK (l : List Key) (k : Key) : List Key := if (l.any fun j => decide (j = k)) = true then l else k :: l
theorem insK_in {l : List Key} {k : Key} (h : k ∈ l) : insK l k = l := if_pos (List.any_eq_true.mpr ⟨k, h, decide_eq_true rfl⟩)
theorem insK_out {l : List Key} {k : Key} (h : k ∉ l) : insK l k = k :: l := if_neg fun z => by
  obtain ⟨j, hj, e⟩ := List.any_eq_true.mp z
  rw [of_decide_eq_true e] at hj
  exact h hj
/-- the set of the keys l at a, each once; its table rises and can be walked -/
def KSet (w : World) (h : Heap) (a : Addr) (l : List Key) : Prop :=
  ∃ o es ep t, h.get? a = some o ∧ o.ExactSet ∧ o.data = .set es ep t ∧ (∀ e ∈ es.toList, GdK w e) ∧ (es.toList.map kyE).Perm l ∧ l.Nodup ∧
    es.size < scanBound ∧ t.fits es.size = true ∧ Ris t.place.toList ∧ (w.params.followText "set-order" = true ∨ t.led = true)
theorem kyE_is {w : World} {e : Int × Value} (g : GdK w e) (k : Key) : keyIs k e.2 = true ↔ kyE e = k := by
  obtain ⟨k0, h, _⟩ := g
  unfold kyE
  rcases keyIs_shape h with ⟨i, t, rfl, hv⟩ | ⟨x, t, rfl, hv⟩
  · rw [hv]
    constructor
    · intro q
      rcases keyIs_shape q with ⟨j, u, rfl, e⟩ | ⟨y, u, rfl, e⟩
      · injection e with e1 _; rw [e1]
      · exact nomatch e
    · rintro rfl
      exact keyIs_int _ _
  · rw [hv]
    constructor
    · intro q
      rcases keyIs_shape q with ⟨j, u, rfl, e⟩ | ⟨y, u, rfl, e⟩
      · exact nomatch e
      · injection e with e1 _; rw [e1]
    · rintro rfl
      exact keyIs_str _ _
section
variable {P : Program} {w : World} {A : Around} {E : Value → Shared → Prop} {s : Shared} {a : Addr} {l : List Key}
theorem gdK_elems {es : List (Int × Value)} (g : ∀ e ∈ es, GdK w e) : ElemsOf (mixKind P w) es := fun e he => by
  obtain ⟨k, h1, h2⟩ := g e he
  refine ⟨⟨k, h1, h2⟩, ?_⟩
  rcases keyIs_shape h1 with ⟨i, t, _, hv⟩ | ⟨x, t, _, hv⟩ <;> rw [hv] <;> rfl
theorem KSet.at {h h' : Heap} (R : KSet w h a l) (k : ∀ o, h.get? a = some o → h'.get? a = some o) : KSet w h' a l := by
  obtain ⟨o, es, ep, t, ho, r⟩ := R
  exact ⟨o, es, ep, t, k o ho, r⟩
theorem ks_tail {g : Bool → Sem Unit} (hg : ∀ (b : Bool) (s₁ : Shared) (Q' : Unit → Shared → Prop), Q' () s₁ → wpAny (model P w) A (g b) Q' E s₁)
    {o : Obj} {es : Array (Int × Value)} {ep : Nat} {t : SetTable} (ho : s.heap.get? a = some o) (hex : o.ExactSet) (hd : o.data = .set es ep t)
    {es1 : Array (Int × Value)} {t2 : SetTable} {l' : List Key} (g1 : ∀ e ∈ es1.toList, GdK w e) (p1 : (es1.toList.map kyE).Perm l') (n1 : l'.Nodup)
    (hb1 : es1.size < scanBound) (hf2 : t2.fits es1.size = true) (hr : Ris t2.place.toList) (hl : w.params.followText "set-order" = true ∨ t2.led = true) {wasDummy : Bool} {R : Option Bool → Shared → Prop}
    (hR : ∀ h', Heap.SameBut a s.heap h' → KSet w h' a l' → R (some true) { s with heap := h' }) :
    wpAny (model P w) A (do
        storeSet a es1 t2
        if (!wasDummy && t2.tooFull) = true then do
            g (relayAll t2 es1 (SetTable.grown es1.size)).2.2
            storeSet a (relayAll t2 es1 (SetTable.grown es1.size)).1 (relayAll t2 es1 (SetTable.grown es1.size)).2.1
            pure (some true)
          else pure (some true)) R E s := by
  refine wpAny_bind (wpAny_storeSet_of ho hd ?_ (fits_of_scanBound hb1))
  have ho1 := store_at (es' := es1) (t' := t2) ho hd
  have sb1 := Heap.SameBut.update s.heap a (Obj.putSet es1 t2)
  split
  · have pm := relayAll_perm t2 es1 (SetTable.grown es1.size)
    have hf3 := relayAll_fits t2 es1 (SetTable.grown es1.size)
    have hr3 := relayAll_ris t2 es1 (SetTable.grown es1.size)
    have hl3 := relayAll_led t2 es1 (SetTable.grown es1.size)
    generalize relayAll t2 es1 (SetTable.grown es1.size) = Z at pm hf3 hr3 hl3 ⊢
    obtain ⟨es2, t3, gave⟩ := Z
    dsimp only at pm hf3 hr3 hl3 ⊢
    have hsz : es2.size = es1.size := by rw [← Array.length_toList, pm.length_eq, Array.length_toList]
    have hb2 : es2.size < scanBound := by rw [hsz]; exact hb1
    refine wpAny_bind (hg _ _ _ ?_)
    refine wpAny_bind (wpAny_storeSet_of ho1 rfl ?_ (fits_of_scanBound hb2))
    have ho2 := store_at (es' := es2) (t' := t3) ho1 rfl
    refine wpAny_pure (hR _ (sb1.trans (Heap.SameBut.update _ a _)) ?_)
    exact ⟨_, es2, _, t3, ho2, hex, rfl, fun e he => g1 e (pm.mem_iff.mp he), (pm.map kyE).trans p1, n1, hb2, hf3, hr3, hl.imp id fun z => by rw [hl3]; exact z⟩
  · exact wpAny_pure (hR _ sb1 ⟨_, es1, _, t2, ho1, hex, rfl, g1, p1, n1, hb1, hf2, hr, hl⟩)
theorem ks_add {k : Key} {u : Value} {Q : Bool → Shared → Prop} (hu : keyIs k u = true) (R : KSet w s.heap a l) (room : l.length + 1 < scanBound)
    (hQ : ∀ h' b, Heap.SameBut a s.heap h' → KSet w h' a (insK l k) → Q b { s with heap := h' }) :
    wpAny (model P w) A (setAddHashed a u ((mixKind P w).hash k)) Q E s := by
  obtain ⟨o, es, ep, t, ho, hex, hd, g, pl, nl, hb, hf, hr, hl⟩ := R
  have hkey : (mixKind P w).is k u = true := hu
  have hsc : u.scannable = true := by
    rcases keyIs_shape hu with ⟨i, t, _, hv⟩ | ⟨x, t, _, hv⟩ <;> rw [hv] <;> rfl
  have hel : ElemsOf (mixKind P w) es.toList := gdK_elems g
  unfold setAddHashed setAddHashedIn
  refine wpAny_holding (wpAny_bind (wpAny_setState_of ho hd hf ?_))
  dsimp only
  rw [byScan_of hsc hb hel]
  simp only [↓reduceIte]
  unfold setAddByScan
  refine wpAny_bind ?_
  refine wpAny_bind (wpAny_rule ?_)
  refine wpAny_bind (wpAny_setScan_of hkey ho hd hf hel ?_)
  cases hfi : List.findIdx? (fun e => (mixKind P w).is k e.2) es.toList with
  | some j =>
    dsimp only
    obtain ⟨hj, pj, _⟩ := List.findIdx?_eq_some_iff_getElem.mp hfi
    have hk : k ∈ l := by
      refine pl.mem_iff.mp (List.mem_map.mpr ⟨es.toList[j], List.getElem_mem hj, ?_⟩)
      exact (kyE_is (g _ (List.getElem_mem hj)) k).mp pj
    refine wpAny_pure (wpAny_pure ?_)
    have q := hQ s.heap false (Heap.SameBut.refl a s.heap) (by rw [insK_in hk]; exact ⟨o, es, ep, t, ho, hex, hd, g, pl, nl, hb, hf, hr, hl⟩)
    exact q
  | none =>
    dsimp only
    have hk : k ∉ l := fun z => by
      obtain ⟨e, he, q⟩ := List.mem_map.mp (pl.mem_iff.mpr z)
      have c := List.findIdx?_eq_none_iff.mp hfi e he
      have c' := (kyE_is (g e he) k).mpr q
      have c2 : keyIs k e.2 = false := c
      rw [c'] at c2
      cases c2
    have hgw : ∀ (b : Bool) {s₁ : Shared} {Q' : Unit → Shared → Prop}, Q' () s₁ → wpAny (model P w) A (match b with | true => rule "set.scan.the-table-gave-way" | false => pure ()) Q' E s₁ :=
      fun b s₁ Q' q => by cases b <;> first | exact wpAny_pure q | exact wpAny_rule q
    have pm := layNew_perm t es ((mixKind P w).hash k) u
    have hf1 := layNew_fits t es ((mixKind P w).hash k) u
    have hr1 := layNew_ris t es ((mixKind P w).hash k) u hr
    have hl1 := layNew_led t es ((mixKind P w).hash k) u
    generalize layNew t es ((mixKind P w).hash k) u = Z at pm hf1 hr1 hl1 ⊢
    obtain ⟨es1, t1, wasDummy, gave⟩ := Z
    dsimp only at pm hf1 hr1 hl1 ⊢
    rw [Array.toList_push] at pm
    have pc : es1.toList.Perm (((mixKind P w).hash k, u) :: es.toList) := pm.trans (List.perm_append_singleton _ _)
    have g0 : GdK w ((mixKind P w).hash k, u) := ⟨k, hu, rfl⟩
    have k0 : kyE ((mixKind P w).hash k, u) = k := (kyE_is g0 k).mp hu
    have pk : (es1.toList.map kyE).Perm (k :: l) := by
      have := pc.map kyE
      rw [List.map_cons, k0] at this
      exact this.trans (List.Perm.cons k pl)
    have g1 : ∀ e ∈ es1.toList, GdK w e := fun e he => by
      rcases List.mem_cons.mp (pc.mem_iff.mp he) with z | z
      · rw [z]; exact g0
      · exact g e z
    have hz : es.size = l.length := by rw [← Array.length_toList, ← pl.length_eq, List.length_map]
    have hsz : es1.size = l.length + 1 := by rw [← Array.length_toList, pc.length_eq, List.length_cons, Array.length_toList, hz]
    have hb1 : es1.size < scanBound := by rw [hsz]; exact room
    have hled : w.params.followText "set-order" = true ∨ t1.led = true := hl.imp id fun z => by rw [hl1]; exact z
    have fin : ∀ h', Heap.SameBut a s.heap h' → KSet w h' a (k :: l) → Q true { s with heap := h' } := fun h' sb r => hQ h' true sb (by rw [insK_out hk]; exact r)
    have nk : (k :: l).Nodup := List.nodup_cons.mpr ⟨hk, nl⟩
    refine wpAny_bind (hgw _ ?_)
    split
    · refine wpAny_bind ?_
      rw [hashByValue_scannable 8 hsc]
      refine wpAny_pure ?_
      refine ks_tail ?_ ho hex hd g1 pk nk hb1 ?_ ?_ ?_ ?_
      · intro b s₁ Q' q; cases b <;> first | exact wpAny_pure q | exact wpAny_rule q
      · first | (split <;> first | exact hf1 | exact SetTable.fits_plain_off hf1) | exact hf1
      · first | (split <;> exact hr1) | exact hr1
      · first | (split <;> exact hled) | exact hled
      · intro h' sb r; dsimp only; exact wpAny_pure (fin h' sb r)
    · refine wpAny_bind (wpAny_pure ?_)
      simp only [↓reduceIte]
      refine ks_tail ?_ ho hex hd g1 pk nk hb1 hf1 hr1 hled ?_
      · intro b s₁ Q' q; cases b <;> first | exact wpAny_pure q | exact wpAny_rule q
      · intro h' sb r; dsimp only; exact wpAny_pure (fin h' sb r)
/-- keys put one behind the other -/
def uniK (ks : List Key) : List Key := ks.foldl insK []
theorem insK_len (l : List Key) (k : Key) : (insK l k).length ≤ l.length + 1 := by
  unfold insK
  split <;> simp
theorem uniK_snoc (ks : List Key) (k : Key) : uniK (ks ++ [k]) = insK (uniK ks) k := by
  unfold uniK
  rw [List.foldl_append]
  rfl
theorem uniK_take_len (ks : List Key) : ∀ i, (uniK (ks.take i)).length ≤ i
  | 0 => by simp [uniK]
  | i + 1 => by
    cases h : ks[i]? with
    | none =>
      rw [List.take_add_one, h]
      have := uniK_take_len ks i
      simp
      omega
    | some k =>
      rw [List.take_add_one, h]
      show (uniK (ks.take i ++ [k])).length ≤ _
      rw [uniK_snoc]
      have h1 := insK_len (uniK (ks.take i)) k
      have h2 := uniK_take_len ks i
      omega
theorem kset_fresh {h : Heap} (ho : h.get? a = some { cls := .type "set", dict := none, data := .set #[] 0 (.fresh 0 0 (!w.params.followText "set-order")) }) : KSet w h a [] :=
  ⟨_, #[], 0, _, ho, ⟨rfl, rfl, rfl⟩, rfl, (fun e he => by simp at he), by simp, List.nodup_nil, (by decide), (by rfl), List.Pairwise.nil, by
    show _ ∨ (!w.params.followText "set-order") = true
    cases w.params.followText "set-order"
    · exact .inr rfl
    · exact .inl rfl⟩
theorem set_update_keys {I : Addr} {fp wr : List Addr} {G : Array GenState → Array GenState → Prop} {n : Nat} {Pv : Nat → Value → Prop} {St : Nat → Shared → Prop} {R : Result → Shared → Prop}
    (W : WalksS P w A.in1 I fp wr G n Pv St) (S : Addr) (hSf : S ∉ fp) (ks : List Key) (hn : n = ks.length) (hb : ks.length + 1 < scanBound) (hval : ∀ i v, Pv i v → ∃ k, ks[i]? = some k ∧ keyIs k v = true) :
    ∀ (k i : Nat) (s : Shared), n - i = k → i ≤ n → St i s → KSet w s.heap S (uniK (ks.take i)) →
      (∀ s', Moved (S :: wr) G s s' → KSet w s'.heap S (uniK ks) → R (.ok (.ret .none)) s') →
      codeAny (model P w) A (.builtin "set.update.loop" ⟨[.ref S, .ref I], []⟩) R s := by
  have hSw : S ∉ wr := fun h => hSf (W.sub _ h)
  have hsub : ∀ b ∈ wr, b ∈ S :: wr := fun b hb => List.mem_cons_of_mem _ hb
  intro k
  induction k with
  | zero =>
    intro i s hk' hi hst hS hR
    have hin : i = n := by omega
    subst hin
    refine codeAny_builtin F.entry_set_update_loop ?_
    rw [Around.under_plainId F.plain_set_update_loop _]
    show wpAny _ A.in1 (pyNext (.ref I) >>= _) _ _ s
    refine wpAny_bind (W.done s _ _ hst fun s' hm => ?_)
    show wpAny _ A.in1 (ret Value.none) _ _ s'
    have e : ks.take i = ks := List.take_of_length_le (by omega)
    rw [e] at hS
    exact wpAny_pure (hR s' (hm.mono hsub) (hS.at fun o e => hm.heap S o hSw e))
  | succ k ih =>
    intro i s hk' hi hst hS hR
    have hlt : i < n := by omega
    refine codeAny_builtin F.entry_set_update_loop ?_
    rw [Around.under_plainId F.plain_set_update_loop _]
    show wpAny _ A.in1 (pyNext (.ref I) >>= _) _ _ s
    refine wpAny_bind (W.item i s _ _ hlt hst fun v s' hP hst' hm => ?_)
    obtain ⟨z, hz, hv⟩ := hval i v hP
    have hS' : KSet w s'.heap S (uniK (ks.take i)) := hS.at fun o e => hm.heap S o hSw e
    have ul := uniK_take_len ks i
    show wpAny _ A.in1 (holding [v] (setAdd S v) >>= _) _ _ s'
    refine wpAny_bind (wpAny_holding ?_)
    unfold setAdd
    refine wpAny_holding ?_
    refine wpAny_bind ((mixKind P w).pyHash (k := z) hv ?_)
    refine ks_add (s := { s' with toks := s'.toks + 1 }) hv hS' (by omega) fun h' b hsb hS2 => ?_
    have hS3 : KSet w h' S (uniK (ks.take (i + 1))) := by
      rw [List.take_add_one, hz]
      show KSet w h' S (uniK (ks.take i ++ [z]))
      rw [uniK_snoc]
      exact hS2
    refine wpAny_pure ⟨plainId_quiet F.plain_set_update_loop _, ih (i + 1) _ (by omega) hlt (W.frame _ s' _ _ hst' (Nat.le_succ _) fun b hb o e => ?_) hS3 fun s'' hm'' hS'' => ?_⟩
    · rw [hsb.2 b (fun h : b = S => hSf (by rw [← h]; exact hb))]; exact e
    · refine hR s'' (Moved.trans W.gtrans ((hm.mono hsub).then_heap (Nat.le_succ _) fun b o hb e => ?_) hm'') hS''
      rw [hsb.2 b (fun h : b = S => hb (by rw [h]; exact List.mem_cons_self))]; exact e
/-- set(xs) -/
theorem call_set_keys {l : Addr} {items : Array Value} (ks : List Key) {Q : Value → Shared → Prop} (hh : A.handled = none) (hl : s.heap.IsList l items) (hit : ∀ (i : Nat) (v : Value), items[i]? = some v → ∃ k, ks[i]? = some k ∧ keyIs k v = true) (hsz : items.size = ks.length)
    (hb : ks.length + 1 < scanBound)
    (h : ∀ (h' : Heap) (tk : Nat), KSet w h' s.heap.objs.size (uniK ks) → (∀ b o, s.heap.get? b = some o → h'.get? b = some o) → Q (.ref s.heap.objs.size) { s with heap := h', toks := tk }) :
    wpAny (model P w) A (call (.type "set") [.ref l]) Q E s := by
  obtain ⟨c, tl, hmro⟩ := F.called_set.mro
  have hmade := F.called_set.made
  have hsub := F.called_set.sub
  refine wpAny_call (codeAny_of_tree ?_)
  show wpAny _ _ (callAny (.type "set") _) _ _ _
  refine wpAny_pure ⟨Code.quiet_builtin _ (by decide +kernel), codeAny_builtin F.entry_type_call ?_⟩
  rw [Around.under_plain (weight_type_call_type "set" [.ref l] []) rfl]
  have h1 := F.called_set.notType
  have h2 := F.called_set.canCreate
  have hct := F.typeCall_set_1 (.ref l)
  repeat (any_goals (first | assumption | wp_step))

  refine codeAny_mono (code_set_led1 (.ref l) (E := E) (Q₁ := fun obj s₁ => obj = .ref s.heap.objs.size ∧ s₁ = { s with heap := s.heap.push { cls := .type "set", dict := none, data := .set #[] 0 (.fresh 0 0 (!w.params.followText "set-order")) } }) ⟨rfl, rfl⟩) fun r s₁ hr => ?_
  cases r with
  | error e => exact hr
  | ok fl =>
    cases fl with
    | ret obj =>
      obtain ⟨rfl, rfl⟩ := hr
      have hS : (s.heap.push { cls := .type "set", dict := none, data := .set #[] 0 (.fresh 0 0 (!w.params.followText "set-order")) }).get? s.heap.objs.size = some { cls := .type "set", dict := none, data := .set #[] 0 (.fresh 0 0 (!w.params.followText "set-order")) } := Heap.get?_push_size _ rfl
      have hT : Shared.TypeIs { s with heap := s.heap.push { cls := .type "set", dict := none, data := .set #[] 0 (.fresh 0 0 (!w.params.followText "set-order")) } } (.ref s.heap.objs.size) "set" := ⟨_, hS, rfl⟩
      have hli := F.called_set.init.lookup
      have hbi := F.called_set.init.bind (.ref s.heap.objs.size)
      repeat (any_goals (first | assumption | wp_step))

      refine codeAny_mono (codeAny_call_builtin (R := wants (fun r s₂ => r = .none ∧ ∃ h' tk, s₂ = { s with heap := h', toks := tk } ∧ KSet w h' s.heap.objs.size (uniK ks) ∧
          (∀ b o, s.heap.get? b = some o → h'.get? b = some o)) E) F.called_set.init.plain F.entry_set_init (check_set_init_1 hT ?_)) fun r₂ s₂ hr₂ => ?_
      · obtain ⟨ol, hol, hcl, nl, hdl⟩ := hl
        obtain ⟨ocls, odict, odata, oslots⟩ := ol
        simp only at hcl hdl
        subst hcl; subst hdl
        have hol' : (s.heap.push { cls := .type "set", dict := none, data := .set #[] 0 (.fresh 0 0 (!w.params.followText "set-order")) }).get? l = some { cls := .type "list", dict := odict, data := .seq items nl, slots := oslots } := Heap.get?_push_of_some _ hol
        have hsls := F.sub_list_set
        have hslf := F.sub_list_frozenset
        have hne : (Value.type "list" == Value.type "dict") = false := by decide
        have hl1 : (s.heap.push { cls := .type "set", dict := none, data := .set #[] 0 (.fresh 0 0 (!w.params.followText "set-order")) }).IsList l items := ⟨_, hol', rfl, nl, rfl⟩
        unfold Builtin.«set.__init__» noKeywords Builtin.Frozenset.updateFrom
        generalize hPI : pyIter = PI
        wp_walk
        subst hPI

        refine wpAny_pyIter_list hl1 ?_
        refine wpAny_bind (wpAny_runValue ?_)
        have hlS : l < s.heap.objs.size := Heap.lt_size hol
        have hh3 : A.in1.in1.in1.handled = none := by simp [hh]
        have hneI : l ≠ (s.heap.push { cls := .type "set", dict := none, data := .set #[] 0 (.fresh 0 0 (!w.params.followText "set-order")) }).objs.size := by
          rw [Heap.size_push]; exact Nat.ne_of_lt (Nat.lt_succ_of_lt hlS)
        have hSf : s.heap.objs.size ∉ [(s.heap.push { cls := .type "set", dict := none, data := .set #[] 0 (.fresh 0 0 (!w.params.followText "set-order")) }).objs.size, l] := by
          rw [Heap.size_push]; simp only [List.mem_cons, List.mem_singleton, List.not_mem_nil, or_false, not_or]
          exact ⟨Nat.ne_of_lt (Nat.lt_succ_self _), Nat.ne_of_gt hlS⟩
        refine set_update_keys ((Walks.list hh3 _ l hneI items).toS) s.heap.objs.size
          hSf ks hsz hb hit (items.size - 0) 0 _ (by omega) (Nat.zero_le _)
          ⟨⟨_, Heap.get?_push_size _ rfl, rfl, rfl⟩, (hl1.push _)⟩ ?hS0 ?hR
        case hS0 =>
          have hget : ((s.heap.push { cls := .type "set", dict := none, data := .set #[] 0 (.fresh 0 0 (!w.params.followText "set-order")) }).push { cls := .type "list_iterator", data := .fields #[.ref l, .int 0 0] }).get? s.heap.objs.size
              = some { cls := .type "set", dict := none, data := .set #[] 0 (.fresh 0 0 (!w.params.followText "set-order")) } := Heap.get?_push_of_some _ hS
          exact kset_fresh hget
        case hR =>
          intro s' hm hS'
          obtain ⟨h', g', d', tk', os'⟩ := s'
          have eg : g' = s.gens := hm.gens
          have ed : d' = s.drawn := hm.drawn
          have eo : os' = s.os := hm.os
          subst eg; subst ed; subst eo
          show wpAny _ _ _ _ _ _
          refine wpAny_pure ?_
          show wpAny _ _ (ret Value.none) _ _ _
          refine wpAny_pure ⟨rfl, h', tk', rfl, hS', fun b o e => ?_⟩
          have hb' : b < s.heap.objs.size := Heap.lt_size e
          have hb1 : b ≠ s.heap.objs.size := Nat.ne_of_lt hb'
          have hb2 : b ≠ (s.heap.push { cls := .type "set", dict := none, data := .set #[] 0 (.fresh 0 0 (!w.params.followText "set-order")) }).objs.size := by
            rw [Heap.size_push]; exact Nat.ne_of_lt (Nat.lt_succ_of_lt hb')
          exact hm.heap b o (by simp only [List.mem_cons, List.mem_singleton, List.not_mem_nil, or_false, not_or]; exact ⟨hb1, hb2⟩) (Heap.get?_push_of_some _ (Heap.get?_push_of_some _ e))

      · cases r₂ with
        | error e => exact hr₂
        | ok fl₂ =>
          cases fl₂ with
          | ret r =>
            obtain ⟨rfl, h', tk, rfl, hS', hk'⟩ := hr₂
            repeat (any_goals (first | assumption | wp_step))
            exact h _ _ hS' hk'
          | _ => exact hr₂.elim
    | _ => exact hr.elim
end
end MI
/-! # sorted(set(xs)), len(set(xs)) -/
namespace MI
open PySem PySem.Spec PyProof.Rows L2
def kStr : Key → Str
  | .inr x => x
  | .inl _ => Str.empty
def kInt : Key → Int
  | .inl i => i
  | .inr _ => 0
section
variable {P : Program} {w : World} {A : Around} {E : Value → Shared → Prop} {s : Shared} {a : Addr} {l : List Key}
theorem ints_all : ∀ (vs : List Value), (∀ v ∈ vs, ∃ k tk, v = Value.int k tk) → IntsAre vs (vs.map fun v => match v with | .int k _ => k | _ => 0)
  | [], _ => .nil
  | v :: vs, h => by
    obtain ⟨k, tk, rfl⟩ := h v List.mem_cons_self
    exact .cons k tk (ints_all vs fun u hu => h u (List.mem_cons_of_mem _ hu))
theorem sorted_ksetS {ss : List Str} {Q : Value → Shared → Prop} (R : KSet w s.heap a (ss.map Sum.inr)) (hh : A.handled = none)
    (hQ : ∀ s' p (out : Array Value) (c : Nat) (ys : List Str), (∀ b o, s.heap.get? b = some o → s'.heap.get? b = some o) → s'.gens = s.gens → s'.os = s.os → s.heap.objs.size ≤ p →
      s'.heap.get? p = some (seqObj "list" out c) → StrsAre out.toList ys → ys.Perm ss → sortedS ys = true → Q (.ref p) s') :
    wpAny (model P w) A (call (.builtin "sorted") [.ref a]) Q E s := by
  obtain ⟨o, es, ep, t, ho, hex, hd, g, pl, nl, hb, hf, hr, hl⟩ := R
  refine Calls.call_function_entry kind_sorted plain_sorted entry_sorted (args_sorted1 _) ?_
  unfold Builtin.«sorted»
  refine wpAny_bind (m := checkCount "sorted" 1 1 _) (wpAny_pure ?_)
  refine wpAny_bind (collect_set (A := A.in1) hh ⟨o, ho, hex.1, hd⟩ hf hb hr hl fun s1 vs k1 hz g1 o1 pm => ?_)
  have hvl : vs.length < scanBound := by rw [pm.length_eq, List.length_map, Array.length_toList]; exact hb
  have hvl2 : vs.length ≤ sizeLine := fits_of_scanBound hvl
  have ek : ∀ e ∈ es.toList, ∃ x tk, e.2 = Value.str x tk := fun e he => by
    obtain ⟨k, h1, h2⟩ := g e he
    have hm := pl.mem_iff.mp (List.mem_map.mpr ⟨e, he, (kyE_is (g e he) k).mp h1⟩)
    obtain ⟨x, _, rfl⟩ := List.mem_map.mp hm
    rcases keyIs_shape h1 with ⟨i, tk, q, hv⟩ | ⟨y, tk, q, hv⟩
    · exact nomatch q
    · exact ⟨y, tk, hv⟩
  have hS : StrsAre vs (vs.map strOf) := strsAre_map vs fun v hv => by
    obtain ⟨e, he, q⟩ := List.mem_map.mp (pm.mem_iff.mp hv)
    obtain ⟨x, tk, h⟩ := ek e he
    exact ⟨x, tk, by rw [← q, h]⟩
  have pk : (vs.map strOf).Perm ss := by
    have q1 := pm.map strOf
    have q2 := pl.map kStr
    rw [List.map_map] at q1 q2
    rw [List.map_map] at q2
    have e1 : es.toList.map (strOf ∘ fun e => e.2) = es.toList.map (kStr ∘ kyE) := List.map_congr_left fun e he => by
      obtain ⟨x, tk, h⟩ := ek e he
      show strOf e.2 = kStr (kyE e)
      unfold kyE
      rw [h]
      rfl
    have e2 : ss.map (kStr ∘ Sum.inr) = ss := by
      have : (kStr ∘ Sum.inr : Str → Str) = id := rfl
      rw [this, List.map_id]
    rw [e2] at q2
    exact (q1.trans (by rw [← e1] at q2; exact q2))
  refine wpAny_bind (wpAny_newList ?_ (by simpa using hvl2))
  have hoL : (s1.heap.push (seqObj "list" vs.toArray 0)).get? s1.heap.objs.size = some (seqObj "list" vs.toArray 0) := Heap.get?_push_size _ rfl
  refine wpAny_bind (wpAny_holding (wpAny_call_entry slot_list_sort ⟨_, hoL, rfl⟩ entry_list_sort (list_sort_treeKAny strKind_oneLt hoL hS.keysOf (fun v₁ v₂ rest e => keyKind_strs (by rw [← e]; exact hS)) hvl2 fun st' hp hs => ⟨_, rfl, ?_⟩) (args_list_sort _)))
  obtain ⟨ys, a1, a2, a3⟩ := sorted_out_str hS hp hs
  obtain ⟨c, hc⟩ := sortedHeap_at (vs := vs) (out := (arrOf st').map (·.2)) hoL
  refine wpAny_pure ⟨_, rfl, hQ _ s1.heap.objs.size _ c ys (fun b u e => ?_) g1 o1 hz hc a1 (a2.trans pk) a3⟩
  have q := k1 b u e
  have hlt := Heap.lt_size q
  show (sortedHeap (s1.heap.push (seqObj "list" vs.toArray 0)) s1.heap.objs.size vs _).get? b = some u
  rw [sortedHeap_old (Nat.ne_of_lt hlt) (by rw [size_push']; exact Nat.lt_succ_of_lt hlt)]
  exact Heap.get?_push_of_some _ q
theorem sorted_ksetI {ss : List Int} {Q : Value → Shared → Prop} (R : KSet w s.heap a (ss.map Sum.inl)) (hh : A.handled = none)
    (hQ : ∀ s' p (out : Array Value) (c : Nat) (ys : List Int), (∀ b o, s.heap.get? b = some o → s'.heap.get? b = some o) → s'.gens = s.gens → s'.os = s.os → s.heap.objs.size ≤ p →
      s'.heap.get? p = some (seqObj "list" out c) → IntsAre out.toList ys → ys.Perm ss → ys.Pairwise (· ≤ ·) → Q (.ref p) s') :
    wpAny (model P w) A (call (.builtin "sorted") [.ref a]) Q E s := by
  obtain ⟨o, es, ep, t, ho, hex, hd, g, pl, nl, hb, hf, hr, hl⟩ := R
  refine Calls.call_function_entry kind_sorted plain_sorted entry_sorted (args_sorted1 _) ?_
  unfold Builtin.«sorted»
  refine wpAny_bind (m := checkCount "sorted" 1 1 _) (wpAny_pure ?_)
  refine wpAny_bind (collect_set (A := A.in1) hh ⟨o, ho, hex.1, hd⟩ hf hb hr hl fun s1 vs k1 hz g1 o1 pm => ?_)
  have hvl : vs.length < scanBound := by rw [pm.length_eq, List.length_map, Array.length_toList]; exact hb
  have hvl2 : vs.length ≤ sizeLine := fits_of_scanBound hvl
  have ek : ∀ e ∈ es.toList, ∃ x tk, e.2 = Value.int x tk := fun e he => by
    obtain ⟨k, h1, h2⟩ := g e he
    have hm := pl.mem_iff.mp (List.mem_map.mpr ⟨e, he, (kyE_is (g e he) k).mp h1⟩)
    obtain ⟨x, _, rfl⟩ := List.mem_map.mp hm
    rcases keyIs_shape h1 with ⟨i, tk, q, hv⟩ | ⟨y, tk, q, hv⟩
    · exact ⟨i, tk, hv⟩
    · exact nomatch q
  have hS := ints_all vs fun v hv => by
    obtain ⟨e, he, q⟩ := List.mem_map.mp (pm.mem_iff.mp hv)
    obtain ⟨x, tk, h⟩ := ek e he
    exact ⟨x, tk, by rw [← q, h]⟩
  have pk : (vs.map fun v => match v with | .int k _ => k | _ => 0).Perm ss := by
    have q1 := pm.map fun v => match v with | .int k _ => k | _ => (0 : Int)
    have q2 := pl.map kInt
    rw [List.map_map] at q1 q2
    rw [List.map_map] at q2
    have e1 : es.toList.map ((fun v => match v with | .int k _ => k | _ => (0 : Int)) ∘ fun e => e.2) = es.toList.map (kInt ∘ kyE) := List.map_congr_left fun e he => by
      obtain ⟨x, tk, h⟩ := ek e he
      show (match e.2 with | .int k _ => k | _ => (0 : Int)) = kInt (kyE e)
      unfold kyE
      rw [h]
      rfl
    have e2 : ss.map (kInt ∘ Sum.inl) = ss := by
      have : (kInt ∘ Sum.inl : Int → Int) = id := rfl
      rw [this, List.map_id]
    rw [e2] at q2
    exact (q1.trans (by rw [← e1] at q2; exact q2))
  refine wpAny_bind (wpAny_newList ?_ (by simpa using hvl2))
  have hoL : (s1.heap.push (seqObj "list" vs.toArray 0)).get? s1.heap.objs.size = some (seqObj "list" vs.toArray 0) := Heap.get?_push_size _ rfl
  refine wpAny_bind (wpAny_holding (wpAny_call_entry slot_list_sort ⟨_, hoL, rfl⟩ entry_list_sort (list_sort_treeAny hoL hS hvl2 fun out ys a1 a2 a3 => ⟨_, rfl, ?_⟩) (args_list_sort _)))
  obtain ⟨c, hc⟩ := sortedHeap_at (vs := vs) (out := out) hoL
  refine wpAny_pure ⟨_, rfl, hQ _ s1.heap.objs.size _ c ys (fun b u e => ?_) g1 o1 hz hc a1 (a2.trans pk) a3⟩
  have q := k1 b u e
  have hlt := Heap.lt_size q
  show (sortedHeap (s1.heap.push (seqObj "list" vs.toArray 0)) s1.heap.objs.size vs _).get? b = some u
  rw [sortedHeap_old (Nat.ne_of_lt hlt) (by rw [size_push']; exact Nat.lt_succ_of_lt hlt)]
  exact Heap.get?_push_of_some _ q
end
/-- the set of keys, held -/
def SetJ (w : World) (a : Addr) (l : List Key) : HO := .ext fun h => KSet w h a l
theorem setJ_new {w : World} {P : Program} {H : Hp} {h : Heap} {a : Addr} {l : List Key} (R : KSet w h a l) : ObjOk P w H h a (SetJ w a l) := by
  have ⟨o, _, _, _, ho, _⟩ := R
  exact ⟨R, ⟨o, ho⟩, fun h1 h2 p k => KSet.at p k⟩
section
variable {X : Cx}
theorem keys_vals (P : Program) (w : World) : ∀ {ks : List Key} {us : List Value}, Vals (ks.map kV) us → ∀ (i : Nat) (v : Value), us[i]? = some v → ∃ k, ks[i]? = some k ∧ keyIs k v = true
  | [], _, .nil, i, v, h => by simp at h
  | k :: ks, _, .cons r t, 0, v, h => by
    simp at h
    subst h
    exact ⟨k, rfl, kV_is (P := P) (w := w) r⟩
  | k :: ks, _, .cons r t, i + 1, v, h => by
    obtain ⟨k', h1, h2⟩ := keys_vals P w t i v (by simpa using h)
    exact ⟨k', by simpa using h1, h2⟩
def rSetJ (K : PySem.W.Frag) (w : World) : List V → Hp → VK → Prop := fun xs H Q => ∃ (l : Addr) (ks : List Key), xs = [V.ref l] ∧ SqL K H l (ks.map kV) ∧ ks.length ≤ 1000 ∧ ∀ a, H a = none → Q (.ref a) (upd H a (SetJ w a (uniK ks)))
theorem cr_setJ (hc : X.calm = true) : CallR X (.type "set") (rSetJ X.K X.w) := by
  intro pins s σ H xs us Q I r h
  obtain ⟨l, ks, rfl, hl, hf, q⟩ := h
  rw [Vals.ref1 r]
  obtain ⟨its, rv, pl, hz⟩ := I.list hl
  have hn : H s.heap.objs.size = none := I.hok.fresh (Nat.le_refl _)
  have hlen := rv.length
  rw [List.length_map] at hlen
  refine call_set_keys (P := X.prog) (w := X.w) ks (I.ok.hd hc) pl.isList (fun i v h => keys_vals X.prog X.w rv i v (by simpa using h)) (by simp [hlen]) (by unfold scanBound; omega) fun h' tk R k => ?_
  exact ⟨.ref s.heap.objs.size, upd H s.heap.objs.size (SetJ X.w s.heap.objs.size (uniK ks)), I.laid (t' := tk) k (Nat.le_refl _) (setJ_new R), rfl, q _ hn⟩
def rSortJ (w : World) : List V → Hp → VK → Prop := fun xs H Q => (∃ (a : Addr) (ss : List Str), xs = [V.ref a] ∧ H a = some (SetJ w a (ss.map Sum.inr)) ∧ ss.length ≤ 1000 ∧
    ∀ (ys : List Str) (p : Addr), ys.Perm ss → sortedS ys = true → H p = none → Q (.ref p) (upd H p (.lst (ys.map V.str)))) ∨
  (∃ (a : Addr) (ss : List Int), xs = [V.ref a] ∧ H a = some (SetJ w a (ss.map Sum.inl)) ∧ ss.length ≤ 1000 ∧
    ∀ (ys : List Int) (p : Addr), ys.Perm ss → ys.Pairwise (· ≤ ·) → H p = none → Q (.ref p) (upd H p (.lst (ys.map V.int))))
theorem cr_sortJ (hc : X.calm = true) : CallR X (.builtin "sorted") (rSortJ X.w) := by
  intro pins s σ H vs us Q I r h
  rcases h with ⟨a, ss, rfl, ha, hlen, q⟩ | ⟨a, ss, rfl, ha, hlen, q⟩
  · have R : KSet X.w s.heap a (ss.map Sum.inr) := (I.hok a _ ha).1
    rw [Vals.ref1 r]
    refine sorted_ksetS R (I.ok.hd hc) fun s' p out c ys k g o hp hg hi pm hs => ?_
    have hl : (ys.map V.str).length ≤ sizeLine := by rw [List.length_map, pm.length_eq, sizeLine_eq]; omega
    have hn : H p = none := I.hok.fresh hp
    have J : Inv X pins σ (upd H p (.lst (ys.map V.str))) { s with heap := s'.heap, gens := s'.gens, drawn := s'.drawn, toks := s'.toks } :=
      I.call (ch := []) (Un.laid k hp hn) (I.hok.laid k hp ⟨hl, out.toList, c, vals_of_strs hi, hg⟩) (by rw [g]; exact I.bare) (fun _ z => nomatch z)
    have e : s' = { s with heap := s'.heap, gens := s'.gens, drawn := s'.drawn, toks := s'.toks } := by
      cases s'
      cases s
      cases o
      rfl
    rw [e]
    exact ⟨.ref p, _, J, rfl, q ys p pm hs hn⟩
  · have R : KSet X.w s.heap a (ss.map Sum.inl) := (I.hok a _ ha).1
    rw [Vals.ref1 r]
    refine sorted_ksetI R (I.ok.hd hc) fun s' p out c ys k g o hp hg hi pm hs => ?_
    have hl : (ys.map V.int).length ≤ sizeLine := by rw [List.length_map, pm.length_eq, sizeLine_eq]; omega
    have hn : H p = none := I.hok.fresh hp
    have J : Inv X pins σ (upd H p (.lst (ys.map V.int))) { s with heap := s'.heap, gens := s'.gens, drawn := s'.drawn, toks := s'.toks } :=
      I.call (ch := []) (Un.laid k hp hn) (I.hok.laid k hp ⟨hl, out.toList, c, vals_of_ints hi, hg⟩) (by rw [g]; exact I.bare) (fun _ z => nomatch z)
    have e : s' = { s with heap := s'.heap, gens := s'.gens, drawn := s'.drawn, toks := s'.toks } := by
      cases s'
      cases s
      cases o
      rfl
    rw [e]
    exact ⟨.ref p, _, J, rfl, q ys p pm hs hn⟩
end
end MI
/-! # Mirrors: sorted(set(xs)), len(set(xs)), max, min and sum of a list, zip -/
namespace MI
open PySem PySem.Spec PyProof.Rows L2
/-- the members, each once, the last one first -/
def uni {α : Type} [DecidableEq α] (l : List α) : List α := l.foldl (fun a k => if (a.any fun j => decide (j = k)) = true then a else k :: a) []
theorem uniK_mapAux {α : Type} [DecidableEq α] (f : α → Key) (hf : ∀ a b, f a = f b → a = b) : ∀ (l acc : List α), (l.map f).foldl insK (acc.map f) = (l.foldl (fun a k => if (a.any fun j => decide (j = k)) = true then a else k :: a) acc).map f
  | [], acc => rfl
  | k :: l, acc => by
    rw [List.map_cons, List.foldl_cons, List.foldl_cons, ← uniK_mapAux f hf l]
    congr 1
    unfold insK
    have e : ((acc.map f).any fun j => decide (j = f k)) = acc.any fun j => decide (j = k) := by
      rw [List.any_map]
      congr 1
      funext j
      show decide (f j = f k) = decide (j = k)
      by_cases h : j = k
      · subst h; simp
      · have h2 : ¬ f j = f k := fun z => h (hf _ _ z)
        rw [decide_eq_false h, decide_eq_false h2]
    rw [e]
    split <;> simp
theorem uniK_str (l : List Str) : uniK (l.map Sum.inr) = (uni l).map Sum.inr := uniK_mapAux (fun x : Str => (Sum.inr x : Key)) (fun a b h => Sum.inr.inj h) l []
theorem uniK_int (l : List Int) : uniK (l.map Sum.inl) = (uni l).map Sum.inl := uniK_mapAux (fun x : Int => (Sum.inl x : Key)) (fun a b h => Sum.inl.inj h) l []
theorem uni_lenAux {α : Type} [DecidableEq α] : ∀ (l acc : List α), (l.foldl (fun a k => if (a.any fun j => decide (j = k)) = true then a else k :: a) acc).length ≤ acc.length + l.length
  | [], acc => by simp
  | k :: l, acc => by
    rw [List.foldl_cons]
    refine Nat.le_trans (uni_lenAux l _) ?_
    split <;> simp <;> omega
theorem uni_len {α : Type} [DecidableEq α] (l : List α) : (uni l).length ≤ l.length := by
  have := uni_lenAux l []
  rw [List.length_nil, Nat.zero_add] at this
  exact this
theorem uni_aux {α : Type} [DecidableEq α] : ∀ (l acc : List α), acc.Nodup → (l.foldl (fun a k => if (a.any fun j => decide (j = k)) = true then a else k :: a) acc).Nodup ∧
    ∀ x, x ∈ (l.foldl (fun a k => if (a.any fun j => decide (j = k)) = true then a else k :: a) acc) ↔ x ∈ acc ∨ x ∈ l
  | [], acc, h => ⟨h, fun x => by simp⟩
  | k :: l, acc, h => by
    rw [List.foldl_cons]
    by_cases hk : k ∈ acc
    · have e : (acc.any fun j => decide (j = k)) = true := List.any_eq_true.mpr ⟨k, hk, decide_eq_true rfl⟩
      rw [if_pos e]
      obtain ⟨h1, h2⟩ := uni_aux l acc h
      refine ⟨h1, fun x => (h2 x).trans ⟨fun z => z.imp id (List.mem_cons_of_mem _), fun z => z.elim .inl fun z => ?_⟩⟩
      rcases List.mem_cons.mp z with rfl | z
      · exact .inl hk
      · exact .inr z
    · have e : ¬ (acc.any fun j => decide (j = k)) = true := fun z => by
        obtain ⟨j, hj, q⟩ := List.any_eq_true.mp z
        rw [of_decide_eq_true q] at hj
        exact hk hj
      rw [if_neg e]
      obtain ⟨h1, h2⟩ := uni_aux l (k :: acc) (List.nodup_cons.mpr ⟨hk, h⟩)
      refine ⟨h1, fun x => (h2 x).trans ?_⟩
      rw [List.mem_cons, List.mem_cons]
      constructor
      · rintro ((z | z) | z)
        · exact .inr (.inl z)
        · exact .inl z
        · exact .inr (.inr z)
      · rintro (z | z | z)
        · exact .inl (.inr z)
        · exact .inl (.inl z)
        · exact .inr z
theorem uni_nodup {α : Type} [DecidableEq α] (l : List α) : (uni l).Nodup := (uni_aux l [] List.nodup_nil).1
theorem uni_mem {α : Type} [DecidableEq α] {l : List α} {x : α} : x ∈ uni l ↔ x ∈ l := ((uni_aux l [] List.nodup_nil).2 x).trans (by simp)
theorem uni_perm {α : Type} [DecidableEq α] {l : List α} (h : l.Nodup) : l.Perm (uni l) := (List.perm_ext_iff_of_nodup h (uni_nodup l)).mpr fun x => uni_mem.symm
def fSortedSet : S → RV → Res RV := fun s r => match asD s r with
  | some (.lst xs) => (match strsOf xs with
    | some ks => if ks.length ≤ 1000 then .ok (.new (.lst ((sortS (uni ks)).map .str))) s else .stuck
    | none => (match intsOf xs with
      | some is => if is.length ≤ 1000 then .ok (.new (.lst ((sortI (uni is)).map .int))) s else .stuck
      | none => .stuck))
  | _ => .stuck
def fLenSet : S → RV → Res RV := fun s r => match asD s r with
  | some (.lst xs) => (match strsOf xs with
    | some ks => if ks.length ≤ 1000 then .ok (.d (.int (uni ks).length)) s else .stuck
    | none => (match intsOf xs with
      | some is => if is.length ≤ 1000 then .ok (.d (.int (uni is).length)) s else .stuck
      | none => .stuck))
  | _ => .stuck
def maxL : List Int → Int
  | [] => 0
  | i :: is => is.foldl (fun a b => if a < b then b else a) i
def minL : List Int → Int
  | [] => 0
  | i :: is => is.foldl (fun a b => if b < a then b else a) i
theorem maxL_aux : ∀ (is : List Int) (i : Int), (is.foldl (fun a b => if a < b then b else a) i) ∈ i :: is ∧ ∀ j ∈ i :: is, j ≤ is.foldl (fun a b => if a < b then b else a) i
  | [], i => ⟨List.mem_cons_self, fun j m => by simp at m; simp [m]⟩
  | k :: is, i => by
    rw [List.foldl_cons]
    obtain ⟨h1, h2⟩ := maxL_aux is (if i < k then k else i)
    refine ⟨?_, fun j m => ?_⟩
    · rcases List.mem_cons.mp h1 with z | z
      · rw [z]
        split
        · exact List.mem_cons_of_mem _ List.mem_cons_self
        · exact List.mem_cons_self
      · exact List.mem_cons_of_mem _ (List.mem_cons_of_mem _ z)
    · have h3 := h2 _ List.mem_cons_self
      rcases List.mem_cons.mp m with rfl | m
      · refine Int.le_trans ?_ h3
        split <;> omega
      · rcases List.mem_cons.mp m with rfl | m
        · refine Int.le_trans ?_ h3
          split <;> omega
        · exact h2 j (List.mem_cons_of_mem _ m)
theorem minL_aux : ∀ (is : List Int) (i : Int), (is.foldl (fun a b => if b < a then b else a) i) ∈ i :: is ∧ ∀ j ∈ i :: is, is.foldl (fun a b => if b < a then b else a) i ≤ j
  | [], i => ⟨List.mem_cons_self, fun j m => by simp at m; simp [m]⟩
  | k :: is, i => by
    rw [List.foldl_cons]
    obtain ⟨h1, h2⟩ := minL_aux is (if k < i then k else i)
    refine ⟨?_, fun j m => ?_⟩
    · rcases List.mem_cons.mp h1 with z | z
      · rw [z]
        split
        · exact List.mem_cons_of_mem _ List.mem_cons_self
        · exact List.mem_cons_self
      · exact List.mem_cons_of_mem _ (List.mem_cons_of_mem _ z)
    · have h3 := h2 _ List.mem_cons_self
      rcases List.mem_cons.mp m with rfl | m
      · refine Int.le_trans h3 ?_
        split <;> omega
      · rcases List.mem_cons.mp m with rfl | m
        · refine Int.le_trans h3 ?_
          split <;> omega
        · exact h2 j (List.mem_cons_of_mem _ m)
theorem maxL_mem {l : List Int} (h : l ≠ []) : maxL l ∈ l := by
  cases l with
  | nil => exact absurd rfl h
  | cons i is => exact (maxL_aux is i).1
theorem maxL_le {l : List Int} : ∀ j ∈ l, j ≤ maxL l := by
  cases l with
  | nil => exact fun j m => (nomatch m)
  | cons i is => exact (maxL_aux is i).2
theorem minL_mem {l : List Int} (h : l ≠ []) : minL l ∈ l := by
  cases l with
  | nil => exact absurd rfl h
  | cons i is => exact (minL_aux is i).1
theorem minL_le {l : List Int} : ∀ j ∈ l, minL l ≤ j := by
  cases l with
  | nil => exact fun j m => (nomatch m)
  | cons i is => exact (minL_aux is i).2
theorem maxL_eq {l : List Int} {m : Int} (h : m ∈ l) (h2 : ∀ j ∈ l, j ≤ m) : maxL l = m := by
  have a := maxL_le m h
  have b := h2 _ (maxL_mem (l := l) (fun z => by rw [z] at h; cases h))
  omega
theorem minL_eq {l : List Int} {m : Int} (h : m ∈ l) (h2 : ∀ j ∈ l, m ≤ j) : minL l = m := by
  have a := minL_le m h
  have b := h2 _ (minL_mem (l := l) (fun z => by rw [z] at h; cases h))
  omega
def fFold (f : List Int → Int) (ne : Bool) : S → RV → Res RV := fun s r => match asD s r with
  | some (.lst xs) => (match intsOf xs with
    | some is => if ne && is.isEmpty then .stuck else .ok (.d (.int (f is))) s
    | none => .stuck)
  | _ => .stuck
section
variable {X : Cx} {W : WX} {a : Expr} {ma : M} {pos p p2 q : Pos}
theorem list_of {g : G} {s : S} {σ : L2.St} {H : Hp} {v : V} {rv : RV} {xs : List D} (ok : Ok X.K g s σ H) (rr : RepRV X.K g s H v rv) (e : asD s rv = some (.lst xs)) : ∃ b vs, v = .ref b ∧ SqL X.K H b vs ∧ ∃ g1 : G, RepL X.K g1 vs xs := by
  obtain ⟨g1, l, sb, rp⟩ := asD_ok ok (GLe.refl g) ok.sub rr e
  cases rp with
  | @lst b vs _ h1 r1 => exact ⟨b, vs, rfl, .of (sb _ _ h1), g1, r1⟩
theorem cr_lenJ : CallR X (.builtin "len") (fun xs H Q => ∃ (a : Addr) (l : List Key), xs = [V.ref a] ∧ H a = some (SetJ X.w a l) ∧ l.length ≤ 1000 ∧ Q (.int l.length) H) := by
  intro pins s σ H vs us Q I r h
  obtain ⟨a, l, rfl, ha, hl, q⟩ := h
  have R : KSet X.w s.heap a l := (I.hok a _ ha).1
  rw [Vals.ref1 r]
  obtain ⟨o, es, ep, t, ho, hex, hd, g, pl, nl, hb, hf, hr, hl⟩ := R
  have hz : es.size = l.length := by rw [← Array.length_toList, ← pl.length_eq, List.length_map]
  exact call_len_set ho hex hd hf (by omega) ⟨.int l.length, H, I.tok _, ⟨_, by rw [hz]⟩, q⟩
theorem me_sortedSet (hc : X.calm = true) (ha : ME X W a ma) (hg : Gl X "sorted") (hm : X.mg "sorted" = none) (hg2 : Gl X "set") (hm2 : X.mg "set" = none)
    (hs : starEach [a] X.env = (false, eval a X.env) :: starEach [] X.env := by rfl)
    (hs2 : starEach [.Call (.Name "set" p2) [a] [] q] X.env = (false, eval (.Call (.Name "set" p2) [a] [] q) X.env) :: starEach [] X.env := by rfl) :
    ME X W (.Call (.Name "sorted" p) [.Call (.Name "set" p2) [a] [] q] [] pos) (mFn1 fSortedSet ma) := by
  refine pe_imp (pe_callB (cr_sortJ hc) hg hm (by decide +kernel) (pa_cons (pe_callTy (cr_setJ hc) hg2 hm2 boot_set (pa_cons ha pa_nil hs) (he := hs)) pa_nil hs2) (he := hs2)) fun σ H Q ⟨g, s, ok, h⟩ => ?_
  refine ma_one (r := fun vs H Q => rSetJ X.K X.w vs H fun x H1 => rSortJ X.w [x] H1 Q) (fun σ g s H Q v rv ok rr h => ?_) ok h
  unfold fSortedSet at h
  split at h
  · rename_i xs e
    obtain ⟨b, vs, rfl, hq, g1, r1⟩ := list_of ok rr e
    split at h
    · rename_i ks e2
      have ev := strsOf_ok r1 e2
      subst ev
      split at h
      · rename_i hl
        refine ⟨b, ks.map Sum.inr, rfl, ?_, by rw [List.length_map]; exact hl, fun a hn => ?_⟩
        · rw [List.map_map]; exact hq
        · rw [uniK_str]
          refine .inl ⟨a, uni ks, rfl, upd_same, Nat.le_trans (uni_len ks) hl, fun ys p hp hy hn2 => ?_⟩
          have := sortS_uniq hp hy
          subst this
          have ok1 := ok.grow (o := SetJ X.w a ((uni ks).map Sum.inr)) hn
          exact h g _ ((Step.grow ok hn).trans (Step.grow ok1 hn2)) (SlKeep.refl _) (ok1.grow hn2) _ ⟨p, rfl, ok1.fnone hn2, ok1.pnone hn2, ok1.lnone hn2, ⟨_, upd_same, repL_strs _⟩⟩
      · exact h.elim
    · split at h
      · rename_i is e2
        have ev := intsOf_ok r1 e2
        subst ev
        split at h
        · rename_i hl
          refine ⟨b, is.map Sum.inl, rfl, ?_, by rw [List.length_map]; exact hl, fun a hn => ?_⟩
          · rw [List.map_map]; exact hq
          · rw [uniK_int]
            refine .inr ⟨a, uni is, rfl, upd_same, Nat.le_trans (uni_len is) hl, fun ys p hp hy hn2 => ?_⟩
            have := sortI_uniq hp hy
            subst this
            have ok1 := ok.grow (o := SetJ X.w a ((uni is).map Sum.inl)) hn
            exact h g _ ((Step.grow ok hn).trans (Step.grow ok1 hn2)) (SlKeep.refl _) (ok1.grow hn2) _ ⟨p, rfl, ok1.fnone hn2, ok1.pnone hn2, ok1.lnone hn2, ⟨_, upd_same, repL_ints _⟩⟩
        · exact h.elim
      · exact h.elim
  · exact h.elim
theorem me_lenSet (hc : X.calm = true) (ha : ME X W a ma) (hg : Gl X "len") (hm : X.mg "len" = none) (hg2 : Gl X "set") (hm2 : X.mg "set" = none)
    (hs : starEach [a] X.env = (false, eval a X.env) :: starEach [] X.env := by rfl)
    (hs2 : starEach [.Call (.Name "set" p2) [a] [] q] X.env = (false, eval (.Call (.Name "set" p2) [a] [] q) X.env) :: starEach [] X.env := by rfl) :
    ME X W (.Call (.Name "len" p) [.Call (.Name "set" p2) [a] [] q] [] pos) (mFn1 fLenSet ma) := by
  refine pe_imp (pe_callB cr_lenJ hg hm PySem.boot_len (pa_cons (pe_callTy (cr_setJ hc) hg2 hm2 boot_set (pa_cons ha pa_nil hs) (he := hs)) pa_nil hs2) (he := hs2)) fun σ H Q ⟨g, s, ok, h⟩ => ?_
  refine ma_one (r := fun vs H Q => rSetJ X.K X.w vs H fun x H1 => ∃ (a : Addr) (l : List Key), [x] = [V.ref a] ∧ H1 a = some (SetJ X.w a l) ∧ l.length ≤ 1000 ∧ Q (.int l.length) H1) (fun σ g s H Q v rv ok rr h => ?_) ok h
  unfold fLenSet at h
  split at h
  · rename_i xs e
    obtain ⟨b, vs, rfl, hq, g1, r1⟩ := list_of ok rr e
    split at h
    · rename_i ks e2
      have ev := strsOf_ok r1 e2
      subst ev
      split at h
      · rename_i hl
        refine ⟨b, ks.map Sum.inr, rfl, ?_, by rw [List.length_map]; exact hl, fun a hn => ?_⟩
        · rw [List.map_map]; exact hq
        · rw [uniK_str]
          have ok1 := ok.grow (o := SetJ X.w a ((uni ks).map Sum.inr)) hn
          refine ⟨a, (uni ks).map Sum.inr, rfl, upd_same, by rw [List.length_map]; exact Nat.le_trans (uni_len ks) hl, ?_⟩
          rw [List.length_map]
          exact h g _ (Step.grow ok hn) (SlKeep.refl _) ok1 _ (.int _)
      · exact h.elim
    · split at h
      · rename_i is e2
        have ev := intsOf_ok r1 e2
        subst ev
        split at h
        · rename_i hl
          refine ⟨b, is.map Sum.inl, rfl, ?_, by rw [List.length_map]; exact hl, fun a hn => ?_⟩
          · rw [List.map_map]; exact hq
          · rw [uniK_int]
            have ok1 := ok.grow (o := SetJ X.w a ((uni is).map Sum.inl)) hn
            refine ⟨a, (uni is).map Sum.inl, rfl, upd_same, by rw [List.length_map]; exact Nat.le_trans (uni_len is) hl, ?_⟩
            rw [List.length_map]
            exact h g _ (Step.grow ok hn) (SlKeep.refl _) ok1 _ (.int _)
        · exact h.elim
      · exact h.elim
  · exact h.elim
theorem me_maxL (hc : X.calm = true) (ha : ME X W a ma) (hg : Gl X "max") (hm : X.mg "max" = none) (hs : starEach [a] X.env = (false, eval a X.env) :: starEach [] X.env := by rfl) : ME X W (.Call (.Name "max" p) [a] [] pos) (mFn1 (fFold maxL true) ma) := by
  refine pe_imp (pe_callB (cr_max hc) hg hm boot_max (pa_cons ha pa_nil hs) (he := hs)) fun σ H Q ⟨g, s, ok, h⟩ => ma_one (fun σ g s H Q v rv ok rr h => ?_) ok h
  unfold fFold at h
  split at h
  · rename_i xs e
    obtain ⟨b, vs, rfl, hq, g1, r1⟩ := list_of ok rr e
    split at h
    · rename_i is e2
      have ev := intsOf_ok r1 e2
      subst ev
      split at h
      · exact h.elim
      · rename_i hne
        refine ⟨b, is, rfl, hq, ?_, fun m h1 h2 => ?_⟩
        · cases is with
          | nil => exact absurd rfl hne
          | cons => exact Nat.succ_pos _
        · have := maxL_eq h1 h2
          subst this
          exact kE_d h ok (.int _)
    · exact h.elim
  · exact h.elim
theorem me_minL (hc : X.calm = true) (ha : ME X W a ma) (hg : Gl X "min") (hm : X.mg "min" = none) (hs : starEach [a] X.env = (false, eval a X.env) :: starEach [] X.env := by rfl) : ME X W (.Call (.Name "min" p) [a] [] pos) (mFn1 (fFold minL true) ma) := by
  refine pe_imp (pe_callB (cr_min hc) hg hm boot_min (pa_cons ha pa_nil hs) (he := hs)) fun σ H Q ⟨g, s, ok, h⟩ => ma_one (fun σ g s H Q v rv ok rr h => ?_) ok h
  unfold fFold at h
  split at h
  · rename_i xs e
    obtain ⟨b, vs, rfl, hq, g1, r1⟩ := list_of ok rr e
    split at h
    · rename_i is e2
      have ev := intsOf_ok r1 e2
      subst ev
      split at h
      · exact h.elim
      · rename_i hne
        refine ⟨b, is, rfl, hq, ?_, fun m h1 h2 => ?_⟩
        · cases is with
          | nil => exact absurd rfl hne
          | cons => exact Nat.succ_pos _
        · have := minL_eq h1 h2
          subst this
          exact kE_d h ok (.int _)
    · exact h.elim
  · exact h.elim
theorem me_sumL (hc : X.calm = true) (ha : ME X W a ma) (hg : Gl X "sum") (hm : X.mg "sum" = none) (hs : starEach [a] X.env = (false, eval a X.env) :: starEach [] X.env := by rfl) : ME X W (.Call (.Name "sum" p) [a] [] pos) (mFn1 (fFold List.sum false) ma) := by
  refine pe_imp (pe_callB (cr_sum hc) hg hm boot_sum (pa_cons ha pa_nil hs) (he := hs)) fun σ H Q ⟨g, s, ok, h⟩ => ma_one (fun σ g s H Q v rv ok rr h => ?_) ok h
  unfold fFold at h
  split at h
  · rename_i xs e
    obtain ⟨b, vs, rfl, hq, g1, r1⟩ := list_of ok rr e
    split at h
    · rename_i is e2
      have ev := intsOf_ok r1 e2
      subst ev
      split at h
      · exact h.elim
      · exact ⟨b, is, rfl, hq, kE_d h ok (.int _)⟩
    · exact h.elim
  · exact h.elim
end
/-! ### zip of two lists, of two tuples -/
def zipD : List D → List D → List D
  | x :: xs, y :: ys => .tup [x, y] :: zipD xs ys
  | _, _ => []
theorem zipD_get : ∀ (xs ys : List D) (i : Nat) (z : D), (zipD xs ys)[i]? = some z → ∃ x y, xs[i]? = some x ∧ ys[i]? = some y ∧ z = .tup [x, y]
  | [], _, _, _, h => by cases h
  | _ :: _, [], _, _, h => by cases h
  | x :: xs, y :: ys, 0, z, h => ⟨x, y, rfl, rfl, by simpa [zipD] using h.symm⟩
  | x :: xs, y :: ys, i + 1, z, h => by
    obtain ⟨x', y', h1, h2, h3⟩ := zipD_get xs ys i z (by simpa [zipD] using h)
    exact ⟨x', y', by simpa using h1, by simpa using h2, h3⟩
theorem zipD_len : ∀ (xs ys : List D), xs.length ≤ (zipD xs ys).length ∨ ys.length ≤ (zipD xs ys).length
  | [], _ => .inl (Nat.zero_le _)
  | _ :: _, [] => .inr (Nat.zero_le _)
  | x :: xs, y :: ys => by
    rcases zipD_len xs ys with h | h
    · exact .inl (by simp [zipD]; omega)
    · exact .inr (by simp [zipD]; omega)
def iZipM (m : S → Res (List D)) : S → Res (List D) := fun s => (m s).bind fun ds s1 => match ds with
  | [.lst xs, .lst ys] => .ok (zipD xs ys) s1
  | [.tup xs, .tup ys] => .ok (zipD xs ys) s1
  | _ => .stuck
theorem walk_zipL {K : PySem.W.Frag} {g : G} {a b : Addr} {vs ws : List V} {xs ys : List D} (h : SqL K g.F a vs) (h' : SqL K g.F b ws) (r : RepL K g vs xs) (r' : RepL K g ws ys) : Walk K (Itz K a b) (zipD xs ys) g := by
  intro g' s' σ' H' l ok
  have hq : SqL K H' a vs := sqL_mono (l.F.trans ok.sub) h
  have hq' : SqL K H' b ws := sqL_mono (l.F.trans ok.sub) h'
  refine ⟨⟨vs, ws, hq, hq', by rw [r.length, r'.length]; exact zipD_len xs ys⟩, fun i d e => ?_⟩
  obtain ⟨x, y, hx, hy, rfl⟩ := zipD_get xs ys i d e
  obtain ⟨v, hv, rv⟩ := r.get hx
  obtain ⟨w, hw, rw'⟩ := r'.get hy
  refine ⟨⟨vs, ws, v, w, hq, hq', hv, hw⟩, fun x H'' ⟨T, z1, z2, ex, hT, eH, e2, e3⟩ => ?_⟩
  subst ex eH
  have e4 := e2 vs hq
  rw [hv] at e4
  cases e4
  have e5 := e3 ws hq'
  rw [hw] at e5
  cases e5
  have k1 := ok.grow (o := .tup [v, w]) hT
  have k2 := k1.frz (o := .tup [v, w]) upd_same (ok.fnone hT) (ok.pnone hT) (ok.lnone hT)
  refine ⟨g'.frz T (.tup [v, w]), (Step.grow ok hT).trans (Step.frz (ok.fnone hT)), SlKeep.refl _, k2, ?_⟩
  exact .tup (.inl (.inl upd_same)) (.cons ((rv.mono l).mono (frz_le (ok.fnone hT))) (.cons ((rw'.mono l).mono (frz_le (ok.fnone hT))) .nil))
theorem walk_zipT {K : PySem.W.Frag} {g : G} {a b : Addr} {vs ws : List V} {xs ys : List D} (h : SqT K g.F a vs) (h' : SqT K g.F b ws) (r : RepL K g vs xs) (r' : RepL K g ws ys) : Walk K (RZ.ItzT K a b) (zipD xs ys) g := by
  intro g' s' σ' H' l ok
  have hq : SqT K H' a vs := sqT_mono (l.F.trans ok.sub) h
  have hq' : SqT K H' b ws := sqT_mono (l.F.trans ok.sub) h'
  refine ⟨⟨vs, ws, hq, hq', by rw [r.length, r'.length]; exact zipD_len xs ys⟩, fun i d e => ?_⟩
  obtain ⟨x, y, hx, hy, rfl⟩ := zipD_get xs ys i d e
  obtain ⟨v, hv, rv⟩ := r.get hx
  obtain ⟨w, hw, rw'⟩ := r'.get hy
  refine ⟨⟨vs, ws, v, w, hq, hq', hv, hw⟩, fun x H'' ⟨T, z1, z2, ex, hT, eH, e2, e3⟩ => ?_⟩
  subst ex eH
  have e4 := e2 vs hq
  rw [hv] at e4
  cases e4
  have e5 := e3 ws hq'
  rw [hw] at e5
  cases e5
  have k1 := ok.grow (o := .tup [v, w]) hT
  have k2 := k1.frz (o := .tup [v, w]) upd_same (ok.fnone hT) (ok.pnone hT) (ok.lnone hT)
  refine ⟨g'.frz T (.tup [v, w]), (Step.grow ok hT).trans (Step.frz (ok.fnone hT)), SlKeep.refl _, k2, ?_⟩
  exact .tup (.inl (.inl upd_same)) (.cons ((rv.mono l).mono (frz_le (ok.fnone hT))) (.cons ((rw'.mono l).mono (frz_le (ok.fnone hT))) .nil))
section
variable {X : Cx} {W : WX} {e e2 : Expr} {m : S → Res (List D)} {p pos tpos : Pos} {elts : List Expr} {kk : Nat}
theorem mi_zip (ha : MA X W [e, e2] m) (hg : Gl X "zip") (hm : X.mg "zip" = none) (hs : starEach [e, e2] X.env = (false, eval e X.env) :: starEach [e2] X.env := by rfl) (hpl : (backTo pos (starEach [e2] X.env)).any (·.1) = false := by rfl) :
    MIt X W (.Tuple elts kk tpos) (.Call (.Name "zip" p) [e, e2] [] pos) (iZipM m) := by
  refine pi_imp (RZ.pi_zipA hg hm ha hs hpl) fun σ H R h => ?_
  obtain ⟨g, s, ok, h⟩ := h
  refine ⟨g, s, ok, (PostE.bind h).mono fun ds g1 s1 H1 t1 k1 o1 h1 vs rs => ?_⟩
  split at h1
  · cases rs with
    | cons r1 rs =>
      cases rs with
      | cons r2 rs =>
        cases rs
        cases r1 with
        | lst hq r =>
          cases r2 with
          | lst hq' r' => exact ⟨_, _, _, _, rfl, .inl ⟨.of (o1.sub _ _ hq), .of (o1.sub _ _ hq'), PostE.done h1 o1 _ (walk_zipL (.of hq) (.of hq') r r')⟩⟩
  · cases rs with
    | cons r1 rs =>
      cases rs with
      | cons r2 rs =>
        cases rs
        cases r1 with
        | tup hq r =>
          cases r2 with
          | tup hq' r' => exact ⟨_, _, _, _, rfl, .inr ⟨sqT_mono o1.sub hq, sqT_mono o1.sub hq', PostE.done h1 o1 _ (walk_zipT hq hq' r r')⟩⟩
  · exact h1.elim
end
end MI
/-! # Sets made of a tuple, sorted -/
namespace MI
open PySem PySem.Spec PyProof.Rows L2
section
variable {P : Program} {w : World} {A : Around} {E : Value → Shared → Prop} {s : Shared} {a : Addr} {l : List Key}
/-- set of a tuple -/
theorem call_set_keysT {l : Addr} {items : Array Value} (ks : List Key) {Q : Value → Shared → Prop} (hh : A.handled = none) (hl : s.heap.IsTuple l items) (hit : ∀ (i : Nat) (v : Value), items[i]? = some v → ∃ k, ks[i]? = some k ∧ keyIs k v = true) (hsz : items.size = ks.length)
    (hb : ks.length + 1 < scanBound)
    (h : ∀ (h' : Heap) (tk : Nat), KSet w h' s.heap.objs.size (uniK ks) → (∀ b o, s.heap.get? b = some o → h'.get? b = some o) → Q (.ref s.heap.objs.size) { s with heap := h', toks := tk }) :
    wpAny (model P w) A (call (.type "set") [.ref l]) Q E s := by
  obtain ⟨c, tl, hmro⟩ := F.called_set.mro
  have hmade := F.called_set.made
  have hsub := F.called_set.sub
  refine wpAny_call (codeAny_of_tree ?_)
  show wpAny _ _ (callAny (.type "set") _) _ _ _
  refine wpAny_pure ⟨Code.quiet_builtin _ (by decide +kernel), codeAny_builtin F.entry_type_call ?_⟩
  rw [Around.under_plain (weight_type_call_type "set" [.ref l] []) rfl]
  have h1 := F.called_set.notType
  have h2 := F.called_set.canCreate
  have hct := F.typeCall_set_1 (.ref l)
  repeat (any_goals (first | assumption | wp_step))

  refine codeAny_mono (code_set_led1 (.ref l) (E := E) (Q₁ := fun obj s₁ => obj = .ref s.heap.objs.size ∧ s₁ = { s with heap := s.heap.push { cls := .type "set", dict := none, data := .set #[] 0 (.fresh 0 0 (!w.params.followText "set-order")) } }) ⟨rfl, rfl⟩) fun r s₁ hr => ?_
  cases r with
  | error e => exact hr
  | ok fl =>
    cases fl with
    | ret obj =>
      obtain ⟨rfl, rfl⟩ := hr
      have hS : (s.heap.push { cls := .type "set", dict := none, data := .set #[] 0 (.fresh 0 0 (!w.params.followText "set-order")) }).get? s.heap.objs.size = some { cls := .type "set", dict := none, data := .set #[] 0 (.fresh 0 0 (!w.params.followText "set-order")) } := Heap.get?_push_size _ rfl
      have hT : Shared.TypeIs { s with heap := s.heap.push { cls := .type "set", dict := none, data := .set #[] 0 (.fresh 0 0 (!w.params.followText "set-order")) } } (.ref s.heap.objs.size) "set" := ⟨_, hS, rfl⟩
      have hli := F.called_set.init.lookup
      have hbi := F.called_set.init.bind (.ref s.heap.objs.size)
      repeat (any_goals (first | assumption | wp_step))

      refine codeAny_mono (codeAny_call_builtin (R := wants (fun r s₂ => r = .none ∧ ∃ h' tk, s₂ = { s with heap := h', toks := tk } ∧ KSet w h' s.heap.objs.size (uniK ks) ∧
          (∀ b o, s.heap.get? b = some o → h'.get? b = some o)) E) F.called_set.init.plain F.entry_set_init (check_set_init_1 hT ?_)) fun r₂ s₂ hr₂ => ?_
      · obtain ⟨ol, hol, hcl, nl, hdl⟩ := hl
        obtain ⟨ocls, odict, odata, oslots⟩ := ol
        simp only at hcl hdl
        subst hcl; subst hdl
        have hol' : (s.heap.push { cls := .type "set", dict := none, data := .set #[] 0 (.fresh 0 0 (!w.params.followText "set-order")) }).get? l = some { cls := .type "tuple", dict := odict, data := .seq items nl, slots := oslots } := Heap.get?_push_of_some _ hol
        have hsls := F.sub_tuple_set
        have hslf := F.sub_tuple_frozenset
        have hne : (Value.type "tuple" == Value.type "dict") = false := by decide
        have hl1 : (s.heap.push { cls := .type "set", dict := none, data := .set #[] 0 (.fresh 0 0 (!w.params.followText "set-order")) }).IsTuple l items := ⟨_, hol', rfl, nl, rfl⟩
        unfold Builtin.«set.__init__» noKeywords Builtin.Frozenset.updateFrom
        generalize hPI : pyIter = PI
        wp_walk
        subst hPI

        refine wpAny_pyIter_tuple hl1 ?_
        refine wpAny_bind (wpAny_runValue ?_)
        have hlS : l < s.heap.objs.size := Heap.lt_size hol
        have hh3 : A.in1.in1.in1.handled = none := by simp [hh]
        have hneI : l ≠ (s.heap.push { cls := .type "set", dict := none, data := .set #[] 0 (.fresh 0 0 (!w.params.followText "set-order")) }).objs.size := by
          rw [Heap.size_push]; exact Nat.ne_of_lt (Nat.lt_succ_of_lt hlS)
        have hSf : s.heap.objs.size ∉ [(s.heap.push { cls := .type "set", dict := none, data := .set #[] 0 (.fresh 0 0 (!w.params.followText "set-order")) }).objs.size, l] := by
          rw [Heap.size_push]; simp only [List.mem_cons, List.mem_singleton, List.not_mem_nil, or_false, not_or]
          exact ⟨Nat.ne_of_lt (Nat.lt_succ_self _), Nat.ne_of_gt hlS⟩
        refine set_update_keys ((Walks.tuple hh3 _ l hneI items).toS) s.heap.objs.size
          hSf ks hsz hb hit (items.size - 0) 0 _ (by omega) (Nat.zero_le _)
          ⟨⟨_, Heap.get?_push_size _ rfl, rfl, rfl⟩, (hl1.push _)⟩ ?hS0 ?hR
        case hS0 =>
          have hget : ((s.heap.push { cls := .type "set", dict := none, data := .set #[] 0 (.fresh 0 0 (!w.params.followText "set-order")) }).push { cls := .type "tuple_iterator", data := .fields #[.ref l, .int 0 0] }).get? s.heap.objs.size
              = some { cls := .type "set", dict := none, data := .set #[] 0 (.fresh 0 0 (!w.params.followText "set-order")) } := Heap.get?_push_of_some _ hS
          exact kset_fresh hget
        case hR =>
          intro s' hm hS'
          obtain ⟨h', g', d', tk', os'⟩ := s'
          have eg : g' = s.gens := hm.gens
          have ed : d' = s.drawn := hm.drawn
          have eo : os' = s.os := hm.os
          subst eg; subst ed; subst eo
          show wpAny _ _ _ _ _ _
          refine wpAny_pure ?_
          show wpAny _ _ (ret Value.none) _ _ _
          refine wpAny_pure ⟨rfl, h', tk', rfl, hS', fun b o e => ?_⟩
          have hb' : b < s.heap.objs.size := Heap.lt_size e
          have hb1 : b ≠ s.heap.objs.size := Nat.ne_of_lt hb'
          have hb2 : b ≠ (s.heap.push { cls := .type "set", dict := none, data := .set #[] 0 (.fresh 0 0 (!w.params.followText "set-order")) }).objs.size := by
            rw [Heap.size_push]; exact Nat.ne_of_lt (Nat.lt_succ_of_lt hb')
          exact hm.heap b o (by simp only [List.mem_cons, List.mem_singleton, List.not_mem_nil, or_false, not_or]; exact ⟨hb1, hb2⟩) (Heap.get?_push_of_some _ (Heap.get?_push_of_some _ e))

      · cases r₂ with
        | error e => exact hr₂
        | ok fl₂ =>
          cases fl₂ with
          | ret r =>
            obtain ⟨rfl, h', tk, rfl, hS', hk'⟩ := hr₂
            repeat (any_goals (first | assumption | wp_step))
            exact h _ _ hS' hk'
          | _ => exact hr₂.elim
    | _ => exact hr.elim
end
section
variable {X : Cx}
def rSetT (K : PySem.W.Frag) (w : World) : List V → Hp → VK → Prop := fun xs H Q => ∃ (l : Addr) (ks : List Key), xs = [V.ref l] ∧ SqT K H l (ks.map kV) ∧ ks.length ≤ 1000 ∧ ∀ a, H a = none → Q (.ref a) (upd H a (SetJ w a (uniK ks)))
theorem cr_setT (hc : X.calm = true) : CallR X (.type "set") (rSetT X.K X.w) := by
  intro pins s σ H xs us Q I r h
  obtain ⟨l, ks, rfl, hl, hf, q⟩ := h
  rw [Vals.ref1 r]
  obtain ⟨its, rv, pl, hz⟩ := I.tuple hl
  have hn : H s.heap.objs.size = none := I.hok.fresh (Nat.le_refl _)
  have hlen := rv.length
  rw [List.length_map] at hlen
  refine call_set_keysT (P := X.prog) (w := X.w) ks (I.ok.hd hc) pl (fun i v h => keys_vals X.prog X.w rv i v (by simpa using h)) (by simp [hlen]) (by unfold scanBound; omega) fun h' tk R k => ?_
  exact ⟨.ref s.heap.objs.size, upd H s.heap.objs.size (SetJ X.w s.heap.objs.size (uniK ks)), I.laid (t' := tk) k (Nat.le_refl _) (setJ_new R), rfl, q _ hn⟩
end
def fSortedSetT : S → RV → Res RV := fun s r => match asD s r with
  | some (.tup xs) => (match strsOf xs with
    | some ks => if ks.length ≤ 1000 then .ok (.new (.lst ((sortS (uni ks)).map .str))) s else .stuck
    | none => (match intsOf xs with
      | some is => if is.length ≤ 1000 then .ok (.new (.lst ((sortI (uni is)).map .int))) s else .stuck
      | none => .stuck))
  | _ => .stuck
section
variable {X : Cx} {W : WX} {a : Expr} {ma : M} {pos p p2 q : Pos}
theorem tup_of {g : G} {s : S} {σ : L2.St} {H : Hp} {v : V} {rv : RV} {xs : List D} (ok : Ok X.K g s σ H) (rr : RepRV X.K g s H v rv) (e : asD s rv = some (.tup xs)) : ∃ b vs, v = .ref b ∧ SqT X.K H b vs ∧ ∃ g1 : G, RepL X.K g1 vs xs := by
  obtain ⟨g1, l, sb, rp⟩ := asD_ok ok (GLe.refl g) ok.sub rr e
  cases rp with
  | @tup b vs _ h1 r1 => exact ⟨b, vs, rfl, sqT_mono sb h1, g1, r1⟩
theorem me_sortedSetT (hc : X.calm = true) (ha : ME X W a ma) (hg : Gl X "sorted") (hm : X.mg "sorted" = none) (hg2 : Gl X "set") (hm2 : X.mg "set" = none)
    (hs : starEach [a] X.env = (false, eval a X.env) :: starEach [] X.env := by rfl)
    (hs2 : starEach [.Call (.Name "set" p2) [a] [] q] X.env = (false, eval (.Call (.Name "set" p2) [a] [] q) X.env) :: starEach [] X.env := by rfl) :
    ME X W (.Call (.Name "sorted" p) [.Call (.Name "set" p2) [a] [] q] [] pos) (mFn1 fSortedSetT ma) := by
  refine pe_imp (pe_callB (cr_sortJ hc) hg hm (by decide +kernel) (pa_cons (pe_callTy (cr_setT hc) hg2 hm2 boot_set (pa_cons ha pa_nil hs) (he := hs)) pa_nil hs2) (he := hs2)) fun σ H Q ⟨g, s, ok, h⟩ => ?_
  refine ma_one (r := fun vs H Q => rSetT X.K X.w vs H fun x H1 => rSortJ X.w [x] H1 Q) (fun σ g s H Q v rv ok rr h => ?_) ok h
  unfold fSortedSetT at h
  split at h
  · rename_i xs e
    obtain ⟨b, vs, rfl, hq, g1, r1⟩ := tup_of ok rr e
    split at h
    · rename_i ks e2
      have ev := strsOf_ok r1 e2
      subst ev
      split at h
      · rename_i hl
        refine ⟨b, ks.map Sum.inr, rfl, ?_, by rw [List.length_map]; exact hl, fun a hn => ?_⟩
        · rw [List.map_map]; exact hq
        · rw [uniK_str]
          refine .inl ⟨a, uni ks, rfl, upd_same, Nat.le_trans (uni_len ks) hl, fun ys p hp hy hn2 => ?_⟩
          have := sortS_uniq hp hy
          subst this
          have ok1 := ok.grow (o := SetJ X.w a ((uni ks).map Sum.inr)) hn
          exact h g _ ((Step.grow ok hn).trans (Step.grow ok1 hn2)) (SlKeep.refl _) (ok1.grow hn2) _ ⟨p, rfl, ok1.fnone hn2, ok1.pnone hn2, ok1.lnone hn2, ⟨_, upd_same, repL_strs _⟩⟩
      · exact h.elim
    · split at h
      · rename_i is e2
        have ev := intsOf_ok r1 e2
        subst ev
        split at h
        · rename_i hl
          refine ⟨b, is.map Sum.inl, rfl, ?_, by rw [List.length_map]; exact hl, fun a hn => ?_⟩
          · rw [List.map_map]; exact hq
          · rw [uniK_int]
            refine .inr ⟨a, uni is, rfl, upd_same, Nat.le_trans (uni_len is) hl, fun ys p hp hy hn2 => ?_⟩
            have := sortI_uniq hp hy
            subst this
            have ok1 := ok.grow (o := SetJ X.w a ((uni is).map Sum.inl)) hn
            exact h g _ ((Step.grow ok hn).trans (Step.grow ok1 hn2)) (SlKeep.refl _) (ok1.grow hn2) _ ⟨p, rfl, ok1.fnone hn2, ok1.pnone hn2, ok1.lnone hn2, ⟨_, upd_same, repL_ints _⟩⟩
        · exact h.elim
      · exact h.elim
  · exact h.elim
end
end MI
/-! # List comprehensions over two -/
namespace MI
open PySem L2
def compGo2 (vs vs1 : List Nat) (t : D → S → Option S) (c : S → Res Bool) (it1 : S → Res (List D)) (t1 : D → S → Option S) (c1 : S → Res Bool) (e : S → Res D) : List D → List D → S → Option (List D × S)
  | [], acc, s => some (acc, s)
  | d :: ds, acc, s => match t d s with
    | none => none
    | some s1 => match c s1 with
      | .ok b s2 => if b = true then (match it1 s2 with
          | .ok ds1 s3 => (match compGo vs1 t1 c1 e ds1 acc (wipeS s3 vs1) with
            | some (acc1, s4) => compGo2 vs vs1 t c it1 t1 c1 e ds acc1 (wipeS s4 vs)
            | none => none)
          | _ => none)
        else compGo2 vs vs1 t c it1 t1 c1 e ds acc (wipeS s2 vs)
      | _ => none
def mComp2 (vs vs1 : List Nat) (it : S → Res (List D)) (t : D → S → Option S) (c : S → Res Bool) (it1 : S → Res (List D)) (t1 : D → S → Option S) (c1 : S → Res Bool) (e : M) : M := fun s => (it s).bind fun ds s1 => if noOwn s1.env vs = true then (match compGo2 vs vs1 t c it1 t1 c1 (mLeak e) ds [] (wipeS s1 vs) with
  | some (acc, s2) => .ok (.new (.lst acc)) { s2 with env := restE s1.env s2.env vs }
  | none => .stuck) else .stuck
theorem wipe_in {σ : St} {vs vs1 : List Nat} (h : ∀ i ∈ vs1, i ∈ vs) : wipe (wipe σ vs1) vs = wipe σ vs := by
  apply List.ext_getElem?
  intro i
  rw [wipe_get (wipe σ vs1) vs i, wipe_get σ vs i]
  by_cases hi : i ∈ vs
  · rw [if_pos hi, if_pos hi, wipe_get]
    split
    · cases σ[i]? <;> rfl
    · rfl
  · rw [if_neg hi, if_neg hi, wipe_get, if_neg fun z => hi (h i z)]
section
variable {K : PySem.W.Frag}
/-- what has been kept so far in the list at D, begun at g0, H0 -/
structure Kp (K : PySem.W.Frag) (D : Addr) (g0 : G) (H0 : Hp) (g : G) (H : Hp) (acc : List MI.D) (avs : List V) : Prop where
  st : Step (g0.hold D) (upd H0 D (.lst [])) (g.wP (g0.hold D).P) (upd H D (.lst []))
  sk : SlKeep g0 g
  pp : g.P = (g0.hold D).P
  at_ : H D = some (.lst avs)
  rep : RepL K g avs acc
variable {D : Addr} {g0 g : G} {H0 H : Hp} {acc : List MI.D} {avs : List V}
theorem Kp.pD (k : Kp K D g0 H0 g H acc avs) : g.P D := by rw [k.pp]; exact .inr rfl
theorem Kp.le (k : Kp K D g0 H0 g H acc avs) : GLe g0 g := ⟨k.st.le.F, k.st.le.ng, k.st.le.adr⟩
theorem Kp.step (k : Kp K D g0 H0 g H acc avs) {g3 : G} {H3 : Hp} (t : Step g H g3 H3) (sk : SlKeep g g3) : Kp K D g0 H0 g3 H3 acc avs := by
  have p3 : g3.P = (g0.hold D).P := t.P.trans k.pp
  refine ⟨⟨⟨k.st.le.F.trans t.le.F, Nat.le_trans k.st.le.ng t.le.ng, fun n hn => (t.le.adr n (Nat.lt_of_lt_of_le hn k.st.le.ng)).trans (k.st.le.adr n hn)⟩, rfl, fun b hb => ?_⟩, fun j => (sk j).trans (k.sk j), p3, (t.keep D k.pD).trans k.at_, k.rep.mono t.le⟩
  by_cases hbD : b = D
  · rw [hbD, upd_same, upd_same]
  · have q := k.st.keep b hb
    rw [upd_ne hbD, upd_ne hbD] at q ⊢
    exact (t.keep b (by rw [k.pp]; exact hb)).trans q
/-- the list at D grows: it is nobody's in the store -/
theorem Kp.grow (k : Kp K D g0 H0 g H acc avs) {s : S} {σ : St} (o : Ok K g s σ H) {v : V} {y : MI.D} (ry : Rep K g v y) : Kp K D g0 H0 g (upd H D (.lst (avs ++ [v]))) (acc ++ [y]) (avs ++ [v]) ∧ Ok K g s σ (upd H D (.lst (avs ++ [v]))) := by
  obtain ⟨_, f5, l5⟩ := o.prot D k.pD
  refine ⟨⟨by rw [upd_upd]; exact k.st, k.sk, k.pp, upd_same, k.rep.append (.one ry)⟩, ⟨fun b u e => ?_, fun l z e => ?_, o.inj, o.env, o.len, o.ng, fun b p => ?_⟩⟩
  · rw [upd_ne (fun z => by rw [z, f5] at e; cases e)]; exact o.sub b u e
  · obtain ⟨f, r⟩ := o.cell l z e
    exact ⟨f, r.mono (GLe.refl _) (upd_ne fun q => l5 ⟨l, z, e, q⟩)⟩
  · obtain ⟨h1, h2, h3⟩ := o.prot b p
    refine ⟨?_, h2, h3⟩
    by_cases z : b = D
    · exact ⟨_, by rw [z]; exact upd_same⟩
    · rw [upd_ne z]; exact h1
/-- the inner loop -/
theorem loop_in {vs1 is1 : List Nat} {gt1 : TG} {t1 : MI.D → S → Option S} {mc1 : S → Res Bool} {me : M} {σ2 : St} (hgt : MGk K gt1 is1 t1) (hsub : ∀ i ∈ is1, i ∈ vs1) {J1 : It} {ds1 : List MI.D} {gA : G} (hJ : Walk K J1 ds1 gA)
    {acc0 : List MI.D} {avs0 : List V} {sA s1f : S} {acc1 : List MI.D} (k0 : Kp K D g0 H0 gA H acc0 avs0) (oA : Ok K gA sA (wipe σ2 vs1) H) (hgo : compGo vs1 t1 mc1 (mLeak me) ds1 acc0 sA = some (acc1, s1f)) {Nx : Hp → Prop}
    (hN : ∀ g' H' avs, GLe gA g' → Kp K D g0 H0 g' H' acc1 avs → Ok K g' s1f (wipe σ2 vs1) H' → Nx H') :
    ∃ W1 : Nat → Nat → Hp → Prop, (∃ m, W1 0 m H) ∧ ∀ j k H, W1 j k H →
      (J1.stop j H ∧ Nx H) ∨ (J1.go j H ∧ ∃ Nx1 : Hp → Prop, (∀ H', Nx1 H' → ∃ k', k' < k ∧ W1 (j + 1) k' H') ∧ ∀ x H', J1.yld j H x H' → gt1 x (wipe σ2 vs1) H' fun σ3 H5 => wipe σ3 vs1 = wipe σ2 vs1 ∧ tMT K W0 mc1 σ3 H5 fun b H6 =>
        if b = true then tM K W0 me σ3 H6 fun y H7 => ∃ acc, H7 D = some (.lst acc) ∧ acc.length < sizeLine ∧ Nx1 (upd H7 D (.lst (acc ++ [y]))) else Nx1 H6) := by
  refine ⟨fun j k H' => k = ds1.length - j ∧ j ≤ ds1.length ∧ ∃ g' s' acc avs, GLe gA g' ∧ Kp K D g0 H0 g' H' acc avs ∧ Ok K g' s' (wipe σ2 vs1) H' ∧ compGo vs1 t1 mc1 (mLeak me) (ds1.drop j) acc s' = some (acc1, s1f),
    ⟨ds1.length, by simp, Nat.zero_le _, gA, sA, acc0, avs0, GLe.refl _, k0, oA, by simpa using hgo⟩, ?_⟩
  rintro j k H' ⟨rfl, hj, g', s', acc, avs, lg, kp, o', hg'⟩
  obtain ⟨stp, go⟩ := hJ g' s' _ H' lg o'
  by_cases hlt : j < ds1.length
  · obtain ⟨d, hd⟩ : ∃ d, ds1[j]? = some d := ⟨_, List.getElem?_eq_getElem hlt⟩
    have hdrop : ds1.drop j = d :: ds1.drop (j + 1) := by
      rw [List.drop_eq_getElem_cons hlt]
      congr 1
      rw [List.getElem?_eq_getElem hlt] at hd
      exact Option.some.inj hd
    obtain ⟨go1, yl⟩ := go j d hd
    refine .inr ⟨go1, fun H3 => ∃ g3 s3 acc avs, GLe gA g3 ∧ Kp K D g0 H0 g3 H3 acc avs ∧ Ok K g3 s3 (wipe σ2 vs1) H3 ∧ compGo vs1 t1 mc1 (mLeak me) (ds1.drop (j + 1)) acc s3 = some (acc1, s1f), fun H3 z => ⟨ds1.length - (j + 1), by omega, rfl, hlt, z⟩, fun x H2 y => ?_⟩
    obtain ⟨g2, t2, k2, o2, r2⟩ := yl x H2 y
    rw [hdrop] at hg'
    unfold compGo at hg'
    cases e : t1 d s' with
    | none => simp only [e] at hg'; cases hg'
    | some s2 =>
      simp only [e] at hg'
      obtain ⟨ws, o2', hQ⟩ := hgt g2 s' (wipe σ2 vs1) H2 x d s2 o2 r2 e
      have wq : wipe (setAll (wipe σ2 vs1) is1 ws) vs1 = wipe σ2 vs1 := wipe_setAll hsub
      refine hQ _ ⟨wq, g2, s2, o2', ?_⟩
      have kp2 := kp.step t2 k2
      have lg2 := lg.trans t2.le
      cases e2 : mc1 s2 with
      | ok b s3 =>
        simp only [e2] at hg'
        intro g3 H3 t3 k3 o3
        show (if b = true then _ else _)
        cases b with
        | true =>
          rw [if_pos rfl] at hg'
          rw [if_pos rfl]
          unfold mLeak at hg'
          refine ⟨g3, s3, o3, ?_⟩
          cases e3 : me s3 with
          | ok r s4 =>
            simp only [e3, Res.bind_ok] at hg'
            intro g4 H4 t4 k4 o4 v rv
            cases e4 : leak r s4 with
            | none => simp only [e4] at hg'; cases hg'
            | some pr =>
              obtain ⟨y, s5⟩ := pr
              simp only [e4] at hg'
              obtain ⟨g5, t5, k5, o5, ry⟩ := leak_ok o4 rv e4
              have kp5 := kp2.step ((t3.trans t4).trans t5) ((k3.trans k4).trans k5)
              by_cases hz : acc.length < sizeLine
              · rw [if_pos hz] at hg'
                obtain ⟨kp6, o6⟩ := kp5.grow o5 ry
                have ow := o6.wipe (vs := vs1)
                rw [wq] at ow
                exact ⟨avs, kp5.at_, by rw [kp5.rep.length]; exact hz, g5, wipeS s5 vs1, acc ++ [y], avs ++ [v], lg2.trans ((t3.trans t4).trans t5).le, kp6, ow, hg'⟩
              · rw [if_neg hz] at hg'; cases hg'
          | exc c p s4 => simp only [e3, Res.bind_exc] at hg'; cases hg'
          | stuck => simp only [e3, Res.bind_stuck] at hg'; cases hg'
        | false =>
          rw [if_neg (by decide)] at hg'
          rw [if_neg (by decide)]
          have ow := o3.wipe (vs := vs1)
          rw [wq] at ow
          exact ⟨g3, wipeS s3 vs1, acc, avs, lg2.trans t3.le, kp2.step t3 k3, ow, hg'⟩
      | exc c p s3 => simp only [e2] at hg'; cases hg'
      | stuck => simp only [e2] at hg'; cases hg'
  · have e : j = ds1.length := by omega
    subst e
    refine .inl ⟨stp, ?_⟩
    rw [List.drop_length] at hg'
    cases hg'
    exact hN g' H' avs lg kp o'
end
section
variable {X : Cx} {W : WX}
theorem tLc2_of {vs vs1 is is1 : List Nat} {it it1 : S → Res (List D)} {gt gt1 : TG} {t t1 : D → S → Option S} {mc mc1 : S → Res Bool} {me : M} {σ : St} {H : Hp} {Q : VK} {g : G} {s : S}
    (hgt : MGk X.K gt is t) (hsub : ∀ i ∈ is, i ∈ vs) (hgt1 : MGk X.K gt1 is1 t1) (hsub1 : ∀ i ∈ is1, i ∈ vs1) (hv : ∀ i ∈ vs1, i ∈ vs)
    (ok : Ok X.K g s σ H) (h : PostE X.K W σ g s H (kE X.K Q) (mComp2 vs vs1 it t mc it1 t1 mc1 me s)) :
    tLc2 (tMI X.K W it) gt (tMT X.K W0 mc) (tMI X.K W0 it1) gt1 (tMT X.K W0 mc1) (tM X.K W0 me) vs vs1 σ H Q := by
  refine ⟨g, s, ok, (PostE.bind h).mono fun ds g1 s1 H1 tt1 k1 o1 h1 J hJ D hD => ?_⟩
  split at h1
  · rename_i hno
    split at h1
    · rename_i acc0 s0 hgo
      have ok2 := o1.grow (o := .lst []) hD
      have hold := ok2.hold (a := D) (u := .lst []) upd_same (o1.fnone hD) (o1.lnone hD)
      refine ⟨fun i m H' => m = ds.length - i ∧ i ≤ ds.length ∧ ∃ g' s' acc avs, Kp X.K D g1 H1 g' H' acc avs ∧ Ok X.K g' s' (wipe σ vs) H' ∧ compGo2 vs vs1 t mc it1 t1 mc1 (mLeak me) (ds.drop i) acc s' = some (acc0, s0),
        ⟨ds.length, by simp, Nat.zero_le _, g1.hold D, wipeS s1 vs, [], [], ⟨⟨⟨Sub.refl _, Nat.le_refl _, fun _ _ => rfl⟩, rfl, fun b _ => by rw [upd_upd]⟩, SlKeep.refl _, rfl, upd_same, .nil⟩, hold.wipe, by simpa using hgo⟩, ?_⟩
      rintro i m H' ⟨rfl, hi, g', s', acc, avs, kp, o', hg'⟩
      obtain ⟨stp, go⟩ := hJ g' s' _ H' kp.le o'
      by_cases hlt : i < ds.length
      · obtain ⟨d, hd⟩ : ∃ d, ds[i]? = some d := ⟨_, List.getElem?_eq_getElem hlt⟩
        have hdrop : ds.drop i = d :: ds.drop (i + 1) := by
          rw [List.drop_eq_getElem_cons hlt]
          congr 1
          rw [List.getElem?_eq_getElem hlt] at hd
          exact Option.some.inj hd
        obtain ⟨go1, yl⟩ := go i d hd
        refine .inr ⟨go1, fun H3 => ∃ g3 s3 acc avs, Kp X.K D g1 H1 g3 H3 acc avs ∧ Ok X.K g3 s3 (wipe σ vs) H3 ∧ compGo2 vs vs1 t mc it1 t1 mc1 (mLeak me) (ds.drop (i + 1)) acc s3 = some (acc0, s0), fun H3 z => ⟨ds.length - (i + 1), by omega, rfl, hlt, z⟩, fun x H2 y => ?_⟩
        obtain ⟨g2, t2, k2, o2, r2⟩ := yl x H2 y
        rw [hdrop] at hg'
        unfold compGo2 at hg'
        cases e : t d s' with
        | none => simp only [e] at hg'; cases hg'
        | some s2 =>
          simp only [e] at hg'
          obtain ⟨ws, o2', hQ⟩ := hgt g2 s' (wipe σ vs) H2 x d s2 o2 r2 e
          have wq : wipe (setAll (wipe σ vs) is ws) vs = wipe σ vs := wipe_setAll hsub
          refine hQ _ ⟨wq, g2, s2, o2', ?_⟩
          have kp2 := kp.step t2 k2
          cases e2 : mc s2 with
          | ok b s3 =>
            simp only [e2] at hg'
            intro g3 H3 t3 k3 o3
            show (if b = true then _ else _)
            have kp3 := kp2.step t3 k3
            cases b with
            | true =>
              rw [if_pos rfl] at hg'
              rw [if_pos rfl]
              refine ⟨g3, s3, o3, ?_⟩
              cases e3 : it1 s3 with
              | ok ds1 s4 =>
                simp only [e3] at hg'
                intro g4 H4 t4 k4 o4 J1 hJ1
                have kp4 := kp3.step t4 k4
                split at hg'
                · rename_i acc1 s5 hin
                  refine loop_in hgt1 hsub1 hJ1 kp4 o4.wipe hin fun g6 H6 avs6 lg6 kp6 o6 => ?_
                  have ow := o6.wipe (vs := vs)
                  rw [wipe_in hv, wq] at ow
                  exact ⟨g6, wipeS s5 vs, acc1, avs6, kp6, ow, hg'⟩
                · cases hg'
              | exc c p s4 => simp only [e3] at hg'; cases hg'
              | stuck => simp only [e3] at hg'; cases hg'
            | false =>
              rw [if_neg (by decide)] at hg'
              rw [if_neg (by decide)]
              have ow := o3.wipe (vs := vs)
              rw [wq] at ow
              exact ⟨g3, wipeS s3 vs, acc, avs, kp3, ow, hg'⟩
          | exc c p s3 => simp only [e2] at hg'; cases hg'
          | stuck => simp only [e2] at hg'; cases hg'
      · have e : i = ds.length := by omega
        subst e
        refine .inl ⟨stp, ?_⟩
        rw [List.drop_length] at hg'
        cases hg'
        have ob := o'.unhold (g0 := g1) (a := D) kp.pp
        obtain ⟨_, fD, lD⟩ := o'.prot D kp.pD
        have npD : ¬ g1.P D := o1.pnone hD
        have lg := kp.le
        have obr := o1.rest hno ob (show GLe g1 (g'.wP g1.P) from ⟨lg.F, lg.ng, lg.adr⟩)
        refine h1 (g'.wP g1.P) H' ⟨⟨lg.F, lg.ng, lg.adr⟩, rfl, fun b hb => ?_⟩ kp.sk obr (.ref D) ⟨D, rfl, fD, npD, fun ⟨l, o, e, z⟩ => lD ?_, avs, kp.at_, kp.rep.mono wP_le⟩
        · have hbD : b ≠ D := fun z => npD (z ▸ hb)
          have q := kp.st.keep b (.inl hb)
          rw [upd_ne hbD, upd_ne hbD] at q
          exact q
        · cases l with
          | gl n => exact ⟨.gl n, o, e, z⟩
          | sl j =>
            have hl : s1.env.length = s0.env.length := by
              have h1 := o1.len
              have h2 := o'.len
              rw [wipe_length] at h2
              omega
            have e' : (match (restE s1.env s0.env vs)[j]? with | some (.own o) => some o | _ => none) = some o := e
            rw [restE_get _ _ hl] at e'
            by_cases hj : j ∈ vs
            · rw [if_pos hj] at e'
              split at e'
              · rename_i w q
                have := List.all_eq_true.mp hno j hj
                rw [q] at this
                cases this
              · cases e'
            · rw [if_neg hj] at e'
              exact ⟨.sl j, o, e', z⟩
    · exact h1.elim
  · exact h1.elim
variable {elt tg iter tg1 iter1 : Expr} {ifs ifs1 : List Expr} {scope : Scope} {own : List (Str × Nat)} {pos : Pos} {it it1 : S → Res (List D)} {gt gt1 : TG} {vs1 is is1 : List Nat} {t t1 : D → S → Option S} {mc mc1 : S → Res Bool} {me : M}
theorem me_comp2 (hc : X.calm = true) (hN : X.N.Nodup) (hi : MIt X W tg iter it) (ok : BlkOk X.N X.env.scope scope own) (hv : ∀ i ∈ vs1, i ∈ own.map (·.2)) (hgk : MGk X.K gt is t) (hsub : ∀ i ∈ is, i ∈ own.map (·.2)) (hgk1 : MGk X.K gt1 is1 t1) (hsub1 : ∀ i ∈ is1, i ∈ vs1)
    (hg : Blk X scope fun Y => PG Y tg gt) (ht : Blk X scope fun Y => MTs Y W0 ifs mc) (hi1 : Blk X scope fun Y => MIt Y W0 tg1 iter1 it1) (hg1 : Blk X scope fun Y => PG Y tg1 gt1) (ht1 : Blk X scope fun Y => MTs Y W0 ifs1 mc1) (he : Blk X scope fun Y => ME Y W0 elt me)
    (hs : ∀ x, foldedSetIterable iter X.env x = pure x := by intro _; rfl) (hs1 : ∀ env x, foldedSetIterable iter1 env x = pure x := by intro _ _; rfl) :
    ME X W (.ListComp elt [⟨tg, iter, ifs, 0⟩, ⟨tg1, iter1, ifs1, 0⟩] scope pos) (mComp2 (own.map (·.2)) vs1 it t mc it1 t1 mc1 me) := by
  have z := pe_lc2 (pos := pos) (tt := tMT X.K W0 mc) (tt1 := tMT X.K W0 mc1) (wi1 := tMI X.K W0 it1) (te := tM X.K W0 me) hc hN hi ok hv (fun s H C cl fp => hg s H C cl fp) (fun s H C cl fp => ht s H C cl fp) (fun s H C cl fp => hi1 s H C cl fp) (fun s H C cl fp => hg1 s H C cl fp) (fun s H C cl fp => ht1 s H C cl fp) (fun s H C cl fp => he s H C cl fp) hs hs1
  refine pe_imp z fun σ H Q h => ?_
  obtain ⟨g, s, o, h⟩ := h
  exact tLc2_of hgk hsub hgk1 hsub1 hv o h
theorem ms_setComp2 {i : Nat} {y : Str} {py spos : Pos} (hc : X.calm = true) (hN : X.N.Nodup) (hi : MIt X W tg iter it) (ok : BlkOk X.N X.env.scope scope own) (hv : ∀ i ∈ vs1, i ∈ own.map (·.2)) (hgk : MGk X.K gt is t) (hsub : ∀ i ∈ is, i ∈ own.map (·.2)) (hgk1 : MGk X.K gt1 is1 t1) (hsub1 : ∀ i ∈ is1, i ∈ vs1)
    (hg : Blk X scope fun Y => PG Y tg gt) (ht : Blk X scope fun Y => MTs Y W0 ifs mc) (hi1 : Blk X scope fun Y => MIt Y W0 tg1 iter1 it1) (hg1 : Blk X scope fun Y => PG Y tg1 gt1) (ht1 : Blk X scope fun Y => MTs Y W0 ifs1 mc1) (he : Blk X scope fun Y => ME Y W0 elt me) (hy : X.N[i]? = some y := by rfl) (hyl : X.env.scope.names.lookup y = some .local := by rfl)
    (hsw : swapsWith (.ListComp elt [⟨tg, iter, ifs, 0⟩, ⟨tg1, iter1, ifs1, 0⟩] scope pos) (some (.Name y py)) spos.line X.env = pure true := by exact sw_true rfl rfl rfl (by decide +kernel))
    (hs : ∀ x, foldedSetIterable iter X.env x = pure x := by intro _; rfl) (hs1 : ∀ env x, foldedSetIterable iter1 env x = pure x := by intro _ _; rfl) :
    MS X W (.Assign [.Name y py] (.ListComp elt [⟨tg, iter, ifs, 0⟩, ⟨tg1, iter1, ifs1, 0⟩] scope pos) spos) (mSet i (mComp2 (own.map (·.2)) vs1 it t mc it1 t1 mc1 me)) := by
  have z := ps_setLc2 (tt := tMT X.K W0 mc) (tt1 := tMT X.K W0 mc1) (wi1 := tMI X.K W0 it1) (te := tM X.K W0 me) hc hN hy hyl hsw hi ok hv (fun s H C cl fp => hg s H C cl fp) (fun s H C cl fp => ht s H C cl fp) (fun s H C cl fp => hi1 s H C cl fp) (fun s H C cl fp => hg1 s H C cl fp) (fun s H C cl fp => ht1 s H C cl fp) (fun s H C cl fp => he s H C cl fp) hs hs1
  refine ps_imp z fun D σ H h => ?_
  obtain ⟨g, s, o, h⟩ := h
  refine tLc2_of hgk hsub hgk1 hsub1 hv o ((PostS.bind h).mono fun r g1 s1 H1 t1 k1 o1 h1 v rv => ?_)
  show D.nx (σ.set i (some v)) H1
  split at h1
  · rename_i s2 e2
    obtain ⟨g2, t2, o2⟩ := assign_ok o1 rv e2
    exact h1 _ g2 H1 t2 o2
  · exact h1.elim
end
end MI
/-! # xs.extend(ys), ys a list that is shared -/
namespace MI
open PySem PySem.Spec PyProof.Rows L2
def itemsD (s : S) : D → Option (List D)
  | .lst ys => some ys
  | .tup ys => some ys
  | .ref n => match s.gl[n]? with
    | some (.lst ys) => some ys
    | _ => none
  | _ => none
def mExtX (o a : M) : M := fun s => (o s).bind fun r s1 => match locOf r with
  | some l => (match cellOf s1 l with
    | some (.lst _) => (mLeak a s1).bind fun d s2 => (match cellOf s2 l, itemsD s2 d with
      | some (.lst xs), some ys => if xs.length + ys.length ≤ sizeLine then .ok (.d .non) (setCell s2 l (.lst (xs ++ ys))) else .stuck
      | _, _ => .stuck)
    | _ => .stuck)
  | none => .stuck
section
variable {X : Cx} {W : WX} {o a : Expr} {mo ma : M} {apos cpos : Pos}
theorem me_extX (ho : ME X W o mo) (ha : ME X W a ma) (hbase : attributeBase o "extend" X.env (eval o X.env) = eval o X.env := by rfl)
    (hfew : ((backTo cpos (starEach [a] X.env)).all (fun x => !x.1) && (backToKw cpos (keywordEach [] X.env)).all (fun x => x.1.isSome)
      && decide ([a].length + ([] : List Keyword).length + (if ([] : List Keyword).isEmpty then 0 else 1) < 30)) = true := by rfl)
    (hline : (apos.endLine == cpos.line) = true := by rfl) (hs : starEach [a] X.env = (false, eval a X.env) :: starEach [] X.env := by rfl) :
    ME X W (.Call (.Attribute o "extend" apos) [a] [] cpos) (mExtX mo ma) := by
  have z := pe_bm PySem.F.plainAttrs_list PySem.F.slot_list_extend PySem.F.type_list_extend mt_extendA ho (pa_cons ha pa_nil hs) hbase hfew hline hs
  refine pe_imp z fun σ H Q h => ?_
  obtain ⟨g, s, ok, h⟩ := h
  refine ⟨g, s, ok, (PostE.bind h).mono fun rv g1 s1 H1 t1 k1 o1 h1 v rr => ?_⟩
  split at h1
  · rename_i l e1
    have hv := locOf_ok rr e1
    subst hv
    split at h1
    · rename_i zs e2
      obtain ⟨us, hu, _⟩ := cell_lst o1 e2
      refine ⟨.inl ⟨rfl, us, .of hu⟩, ?_⟩
      refine tM_leak o1 (PostE.bind h1) fun d g2 s2 H2 y t2 k2 o2 ry h2 => ?_
      have el := loc_held o1 e2 t2 k2
      split at h2
      · rename_i xs ys e3 e4
        split at h2
        · rename_i hz
          obtain ⟨vs, hvs, rvs⟩ := cell_lst o2 e3
          rw [← el]
          have fin : ∀ ws, RepL X.K g2 ws (xs ++ ys) → Q .non (upd H2 (g2.adr l) (.lst ws)) := fun ws rw' => kE_change (o' := .lst (xs ++ ys)) o2 e3 ⟨ws, upd_same, rw'⟩ .non h2
          cases d with
          | lst zs =>
            cases e4
            cases ry with
            | @lst b us _ hb rz => exact .inl ⟨_, b, vs, us, rfl, rfl, hvs, o2.sub _ _ hb, by rw [rvs.length, rz.length]; exact hz, fin _ (rvs.append rz)⟩
          | tup zs =>
            cases e4
            cases ry with
            | @tup b us _ hb rz => exact .inr ⟨_, b, vs, us, rfl, rfl, hvs, sqT_mono o2.sub hb, by rw [rvs.length, rz.length]; exact hz, fin _ (rvs.append rz)⟩
          | ref n =>
            unfold itemsD at e4
            simp only at e4
            split at e4
            · rename_i zs e5
              cases e4
              obtain ⟨us, hus, rus⟩ := cell_lst o2 (l := .gl n) e5
              cases ry
              exact .inl ⟨_, _, vs, us, rfl, rfl, hvs, hus, by rw [rvs.length, rus.length]; exact hz, fin _ (rvs.append rus)⟩
            · cases e4
          | _ => cases e4
        · exact h2.elim
      · exact h2.elim
    · exact h1.elim
  · exact h1.elim
end
theorem ap_ExtX {o a : M} {s : S} : mExtX o a s = (o s).bind fun r s1 => match locOf r with
  | some l => (match cellOf s1 l with
    | some (.lst _) => (mLeak a s1).bind fun d s2 => (match cellOf s2 l, itemsD s2 d with
      | some (.lst xs), some ys => if xs.length + ys.length ≤ sizeLine then .ok (.d .non) (setCell s2 l (.lst (xs ++ ys))) else .stuck
      | _, _ => .stuck)
    | _ => .stuck)
  | none => .stuck := rfl
end MI
/-! # Comprehensions out of which an exception may go -/
namespace PySem
namespace HandSPX
section
variable {M : Model} {A : Around} {E : Value → Shared → Prop} {s : Shared} {Z : Obj → Prop} {base : Heap} {env : Env} {outer l : List Env} {L e : Addr}
/-- held by another frame: noted by this one -/
theorem looks_otherZ {L' : Addr} {Q : Unit → Shared → Prop} (hZ : Steady Z) (hfr : A.frames = some (env :: outer)) (hf : env.frame = some L) (hne : L' ≠ L) (hfl : HeldZ base (env :: outer) e Z L' s.heap)
    (hQ : ∀ h', HeldZ base (env :: outer) e Z L h' → s.heap.UpToSlots h' → Q () { s with heap := h' }) : wpAny M A (noteFrame (.ref e) env) Q E s := by
  obtain ⟨hkb, hen, hl, oe, vs, T, oT, ts, he, hz, hd, h1, hnT, hTe, hT, hdT, h3⟩ := hfl
  have hne' : (rawInt L' == rawInt L) = false := by
    refine beq_false_of_ne fun z => hne ?_
    unfold rawInt at z
    injection z with z _
    exact Int.ofNat.inj z
  unfold noteFrame
  simp only [hf]
  refine wpAny_bind (wpAny_field he hd h1 ?_)
  rw [if_pos (show (Value.ref T != Value.none) = true from by simp)]
  refine wpAny_bind (wpAny_field hT hdT h3 ?_)
  rw [if_neg (show ¬ ((rawInt L' == rawInt L) = true) from by rw [hne']; decide)]
  refine wpAny_bind (wpAny_setField hT hdT (Array.getElem?_eq_some_iff.mp h3).1 ?_)
  have other : ∀ b, b ≠ T → (s.heap.update T (Obj.mapFields (·.setIfInBounds 3 Value.none))).get? b = s.heap.get? b := fun b hb => Heap.get?_update_other _ _ (Ne.symm hb)
  have noRecord : ∀ b o, s.heap.get? b = some o → (∀ vs, o.data ≠ .fields vs) → b ≠ T := fun b o hb hnf q => by
    rw [q, hT] at hb; injection hb with hb; subst hb; exact hnf ts hdT
  refine wpAny_entryZ hZ hfr (hl.of_keeps fun b o hb hnf => ⟨o, (other b (noRecord b o hb hnf)).trans hb, rfl⟩) hf ((other e (Ne.symm hTe)).trans he)
    (fun b o hbo => (other b fun q => by rw [q, hnT] at hbo; cases hbo).trans (hkb b o hbo)) hen hd (Array.getElem?_eq_some_iff.mp h1).1 hz fun h' hN => ?_
  obtain ⟨x1, x2, x3, x4⟩ := hN
  exact hQ h' ⟨x1, hen, x2, x3⟩ fun b o hb hnf => x4 b o ((other b (noRecord b o hb hnf)).trans hb) hnf
end
end HandSPX
end PySem

namespace L2
open PySem PySem.Spec PyProof.Rows
/-- a block's context that lets exceptions out -/
abbrev Cx.blx (X : Cx) (s : Shared) (H : Hp) (scope : Scope) (ce : Env) (fp : List Addr) (xe : Value → Shared → Prop) : Cx := (X.blk s H scope ce fp).wish xe
/-- a block's exception, noted in the frame of the def around -/
def XN (X : Cx) (s : Shared) (H : Hp) (scope : Scope) (ce : Env) (fp : List Addr) (W : WX) (u : Value) (s' : Shared) : Prop :=
  ∃ (a : Addr) (B : Heap) (sI : Shared) (pins : List (Addr × Obj)) (σ : St) (H' : Hp) (cls : Value) (d : Option Addr),
    u = .ref a ∧ Inv (X.blk s H scope ce fp) pins σ H' sI ∧ (∀ b o, sI.heap.get? b = some o → b ∉ frs X.stack → B.get? b = some o) ∧ sI.heap.UpToSlots s'.heap ∧
      HandSPX.HeldZ B X.stack a (Zc cls d) X.env.locals s'.heap ∧ H' a = none ∧ s'.os = sI.os ∧ AllBare s'.gens ∧ W cls d σ H'
section
variable {X : Cx} {s3 s' : Shared} {H3 : Hp} {scope : Scope} {ce : Env} {fp : List Addr} {xe : Value → Shared → Prop} {W : WX} {u : Value} {E₁ : Value → Shared → Prop}
theorem noted1 (hs : X.stack = X.env :: X.outer) (hf : X.env.frame = some X.env.locals) (hfr : X.A.frames = some X.stack) (hce : ce.frame = X.env.frame) (x : XE (X.blx s3 H3 scope ce fp xe) W u s') :
    wpAny (model X.prog X.w) X.A (noteFrame u ce) (fun _ s'' => XN X s3 H3 scope ce fp W u s'') E₁ s' := by
  obtain ⟨a, B, sI, pins, σ, H, cls, d, rfl, I, nb, up, sky, na, os, ag, w⟩ := x
  rw [noteFrame_env _ hce]
  have fin : ∀ h', HandSPX.HeldZ B X.stack a (Zc cls d) X.env.locals h' → s'.heap.UpToSlots h' → XN X s3 H3 scope ce fp W (.ref a) { s' with heap := h' } := fun h' hh up' =>
    ⟨a, B, sI, pins, σ, H, cls, d, rfl, I.unwish, nb, up.trans up', hh, na, os, ag, w⟩
  have sky' : Sky B X.stack a (Zc cls d) ce.locals s'.heap := sky
  rw [hs] at sky' fin hfr
  rcases sky' with ⟨hB, hn, hl, oe, vs, he, hz, hd, h1⟩ | fl | hd
  · exact HandSPX.look_newZ Zc.steady hfr hl hf he hB hn hd h1 hz fin
  · exact HandSPX.looks_onZ Zc.steady hfr hf fl fin
  · by_cases hL : ce.locals = X.env.locals
    · rw [hL] at hd
      exact HandSPX.againZ hf hd.2.2.2 (fin s'.heap hd (Heap.UpToSlots.refl _))
    · exact HandSPX.looks_otherZ Zc.steady hfr hf hL hd fin
theorem noted2 (hf : X.env.frame = some X.env.locals) (hce : ce.frame = X.env.frame) (x : XN X s3 H3 scope ce fp W u s') :
    wpAny (model X.prog X.w) X.A (noteFrame u ce) (fun _ s'' => XN X s3 H3 scope ce fp W u s'') E₁ s' := by
  have x' := x
  obtain ⟨a, B, sI, pins, σ, H, cls, d, rfl, I, nb, up, hh, na, os, ag, w⟩ := x
  exact HandSPX.againZ (hce.trans hf) hh.2.2.2 x'
theorem cameBack (hf : X.env.frame = some X.env.locals) (hce : ce.frame = X.env.frame) (x : XN X s3 H3 scope ce fp W u s') {E : Value → Shared → Prop} (hE : ∀ s'', XN X s3 H3 scope ce fp W u s'' → E u s'') :
    cameBackBy (model X.prog X.w) X.A ce E u s' := by
  obtain ⟨a, B, sI, pins, σ, H, cls, d, rfl, I, nb, up, hh, na, os, ag, w⟩ := x
  obtain ⟨_, _, _, oe, vs, T, oT, ts, he, hz, hd, h1, hnT, hTe, hT, hdT, h3⟩ := id hh
  unfold cameBackBy
  refine wpAny_bind (wpAny_field he hd h1 ?_)
  rw [if_neg (show ¬ ((Value.ref T == Value.none) = true) from by simp)]
  rw [hce, hf]
  exact HandSPX.setFlight_onZ hh fun h₃ hh3 k3 => hE _ ⟨a, B, sI, pins, σ, H, cls, d, rfl, I, nb, up.trans k3, hh3, na, os, ag, w⟩
/-- out of the comprehension: the block is let go -/
theorem XN.fails {pins0 : List (Addr × Obj)} {σ0 : St} {W' : WX} (I3 : Inv X pins0 σ0 H3 s3) (f3 : ∀ b ∈ fp, FpOk X pins0 H3 b) (hL : ce.locals = s3.heap.objs.size) (hf : X.env.frame = some X.env.locals) (hce : ce.frame = X.env.frame)
    (tk : Takes X W') (hW : ∀ cls d σ H, W cls d σ H → W' cls d σ0 H) (x : XN X s3 H3 scope ce fp W u s') : CompFails (model X.prog X.w) X.A X.xe ce u s' := by
  obtain ⟨a, B, sI, pins, σ, H, cls, d, rfl, I, nb, up, hh, na, os, ag, w⟩ := x
  obtain ⟨m, hn, _⟩ := id I.loc
  have hn : sI.heap.Ns ce.locals m := hn
  have hn' : s'.heap.Ns ce.locals m := hn.upToSlots up
  refine ⟨m, hn', fun h₂ m₂ hn₂ hs₂ => ?_⟩
  have hC0 : H ce.locals = none := I.free
  obtain ⟨b1, b0, f1, oe, vs, T, oT, ts, he, hz, hd, h1, hnT, hTe, hT, hdT, h3⟩ := hh
  have sub : ∀ (h : Heap) b o, (PySem.W.hideAll h [ce.locals]).get? b = some o → h.get? b = some o ∧ b ≠ ce.locals := fun h b o e => by
    refine ⟨PySem.W.of_hideAll _ e, fun z => ?_⟩
    rw [z, PySem.W.hideAll_none _ List.mem_cons_self] at e
    cases e
  have get : ∀ (h : Heap) b o, h.get? b = some o → b ≠ ce.locals → (PySem.W.hideAll h [ce.locals]).get? b = some o := fun h b o e n => PySem.W.hideAll_get _ e (by simpa using n)
  have non : ∀ b, B.get? b = none → (PySem.W.hideAll B [ce.locals]).get? b = none := fun b e => by
    cases q : (PySem.W.hideAll B [ce.locals]).get? b with
    | none => rfl
    | some o => rw [(sub B b o q).1] at e; cases e
  have b2 : (PySem.W.hideAll B [ce.locals]).StaysIn h₂ := fun b o hb => (hs₂.2 b (sub B b o hb).2).trans (b1 b o (sub B b o hb).1)
  have f2 : h₂.FunFrames (PySem.W.hideAll B [ce.locals]) X.stack := Heap.FunFrames.sameBut hs₂ hn₂ (funFrames_none f1 fun L hL => non L (f1.mem hL).1)
  have nC : ∀ b o vs, s'.heap.get? b = some o → o.data = .fields vs → b ≠ ce.locals := fun b o vs e e2 z => by
    obtain ⟨oL, es, ep, hoL, hdL, r⟩ := hn'
    rw [z, hoL] at e
    cases e
    rw [hdL] at e2
    cases e2
  have he2 := (hs₂.2 a (nC a oe vs he hd)).trans he
  have t2 : HandSPX.TracedZ h₂ (PySem.W.hideAll B [ce.locals]) a (Zc cls d) (rawInt X.env.locals) := ⟨oe, vs, T, oT, ts, he2, hz, hd, h1, non T hnT, hTe, (hs₂.2 T (nC T oT ts hT hdT)).trans hT, hdT, h3⟩
  unfold PySem.passOn
  refine wpAny_bind (wpAny_field he2 hd h1 ?_)
  rw [if_neg (show ¬ ((Value.ref T == Value.none) = true) from by simp)]
  rw [hce, hf]
  refine wpAny_bind (HandSPX.setFlight_onZ ⟨b2, non a b0, f2, t2⟩ fun h₃ hh3 k3 => ?_)
  have base : Un (frs X.stack) fp H3 H s3.heap sI.heap := I.base
  have lt : ∀ b o, s3.heap.get? b = some o → b ≠ ce.locals := fun b o e z => Nat.lt_irrefl _ (by rw [z, hL] at e; exact Heap.lt_size e)
  have J : Inv X pins0 σ0 H { sI with heap := PySem.W.hideAll sI.heap [ce.locals] } := I3.call' (ch := fp) I.os
    ⟨fun b o e n hb hx => get _ b _ (base.keep b o e n hb hx) (lt b o e), fun b o e n hb hx => by
        obtain ⟨sl, q⟩ := base.slot b o e n hb hx
        exact ⟨sl, get _ b _ q (lt b o e)⟩, base.free, fun b o e hx => by
        obtain ⟨o', q⟩ := base.there b o e hx
        exact ⟨o', get _ b _ q (lt b o e)⟩, base.tups, base.frzs, base.tbls⟩
    (fun b o q => (I.hok b o q).stay (fun c v hc r => get _ c _ r fun z => by
        rcases hc with hc | hc
        · rw [← hc, z, hC0] at q; cases q
        · rw [z, hC0] at hc; cases hc) (fun _ r => r) fun _ _ r => r)
    I.bare fun b hb => ⟨(f3 b hb).2.2.2.1, (f3 b hb).2.1, (f3 b hb).2.2.2.2.1, (f3 b hb).2.2.2.2.2⟩
  refine wpAny_throw (tk _ _ ⟨a, PySem.W.hideAll B [ce.locals], { sI with heap := PySem.W.hideAll sI.heap [ce.locals] }, pins0, σ0, H, cls, d, rfl, J, fun b o e hb => ?_, fun b o e hnf => ?_, .inr (.inr hh3), na, os, ag, hW _ _ _ _ w⟩)
  · obtain ⟨e1, e2⟩ := sub _ b o e
    exact get _ b o (nb b o e1 hb) e2
  · obtain ⟨e1, e2⟩ := sub _ b o e
    obtain ⟨sl, q⟩ := up b o e1 hnf
    exact k3 b _ ((hs₂.2 b e2).trans q) hnf |>.imp fun sl' z => z
end
end L2
/-! # List comprehensions over two, out of which an exception may go -/
namespace L2
open PySem PySem.Spec PyProof.Rows
section
variable {prog : Program} {w : World} {A : Around} {R : Result → Shared → Prop} {s : Shared} {elt t0 i0 t1 i1 : Expr} {ifs0 ifs1 : List Expr} {scope : Scope} {pos : Pos} {it acc : Value} {env : Env}
/-- the loop of the first clause; an exception of the inner one goes on -/
theorem loopX_out (hs : ∀ x, foldedSetIterable i1 env x = pure x) (I : Nat → Shared → Prop)
    (turn : ∀ n s, I n s → wpAny (model prog w) A (pyNext it) (fun r s₁ => match r with
      | none => R (.ok .next) s₁
      | some v => wpAny (model prog w) A (letOwnedTupleGo t0 it v) (fun _ s₁' => wpAny (model prog w) A (assign t0 env v) (fun _ s₂ =>
          wpAny (model prog w) A (forIn ifs0 true fun c r => if r = true then do let ok ← isTrue c env (eval c env); pure (ForInStep.yield ok) else pure (ForInStep.yield r)) (fun ok s₃ =>
            if ok = true then wpAny (model prog w) A (eval i1 env) (fun x s₄ => wpAny (model prog w) A (pyIter x) (fun it1 s₅ =>
              codeAny (model prog w) A (.compStart (.ListComp elt [⟨t0, i0, ifs0, 0⟩, ⟨t1, i1, ifs1, 0⟩] scope pos) 1 it1 acc env) (fun r s' => match r with
                | .ok _ => ∃ m, m < n ∧ I m s'
                | .error e => cameBackBy (model prog w) A env (notedBy (model prog w) A env fun e s' => R (.error e) s') e s') s₅) (notedBy (model prog w) A env fun e s' => R (.error e) s') s₄) (notedBy (model prog w) A env fun e s' => R (.error e) s') s₃
            else ∃ m, m < n ∧ I m s₃) (notedBy (model prog w) A env fun e s' => R (.error e) s') s₂) (notedBy (model prog w) A env fun e s' => R (.error e) s') s₁') (notedBy (model prog w) A env fun e s' => R (.error e) s') s₁) (notedBy (model prog w) A env fun e s' => R (.error e) s') s)
    (n : Nat) (h : I n s) :
    codeAny (model prog w) A (.compLoop (.ListComp elt [⟨t0, i0, ifs0, 0⟩, ⟨t1, i1, ifs1, 0⟩] scope pos) 0 it acc env) R s := by
  refine codeAny_loop rfl I (fun n s hI => ?_) n h
  show wpAny _ A ((compTurn (.ListComp elt [⟨t0, i0, ifs0, 0⟩, ⟨t1, i1, ifs1, 0⟩] scope pos) 0 it acc env).onRaise (fun x => do noteFrame x env; theTreesLotGoes x)) _ _ s
  refine wpAny_noted ?_
  rw [compTurn2_out]
  refine wpAny_bind (wpAny_standAt (wpAny_bind (wpAny_mono (turn n s hI) (fun r s₁ h₁ => ?_) fun _ _ h' => h')))
  cases r with
  | none => exact wpAny_pure h₁
  | some v =>
    refine wpAny_bind (wpAny_mono h₁ (fun _ s₁' h₁' => ?_) fun _ _ h' => h')
    refine wpAny_bind (wpAny_mono h₁' (fun _ s₂ h₂ => wpAny_bind (wpAny_mono h₂ (fun ok s₃ h₃ => ?_) fun _ _ h' => h')) fun _ _ h' => h')
    cases ok with
    | false => exact wpAny_pure ⟨rfl, h₃⟩
    | true =>
      refine wpAny_bind (wpAny_mono h₃ (fun x s₄ h₄ => ?_) fun _ _ h' => h')
      refine wpAny_bind (wpAny_standAt (wpAny_bind (wpAny_of_eq (hs x) (wpAny_bind (wpAny_holding (wpAny_mono h₄ (fun it1 s₅ h₅ => ?_) fun _ _ h' => h'))))))
      refine wpAny_bind (wpAny_runOwn ?_)
      rw [Around.mark_none]
      refine codeAny_mono h₅ fun r s' hr => ?_
      cases r with
      | ok f =>
        first
          | exact wpAny_pure ⟨rfl, hr⟩
          | exact wpAny_bind (wpAny_pure (wpAny_pure ⟨rfl, hr⟩))
      | error e => exact hr
end
/-- the wish of a block at the slots σ -/
abbrev WB (W : WX) (σ : St) : WX := fun cls d _ H => W cls d σ H
/-- in each block of X that lets exceptions out -/
abbrev BlkX (X : Cx) (scope : Scope) (P : Cx → WX → Prop) : Prop := ∀ (W : WX) (xe : Value → Shared → Prop) (s : Shared) (H : Hp) (C : Addr) (cl : List (Str × Addr)) (fp : List Addr),
  Takes (X.blx s H scope (PySem.compEnvC scope cl C X.env) fp xe) W → P (X.blx s H scope (PySem.compEnvC scope cl C X.env) fp xe) W
section
variable {X : Cx}
theorem lcX_core {W : WX} {pins : List (Addr × Obj)} {s : Shared} {σ : St} {H : Hp} {Q : VK} {elt tg iter tg1 iter1 : Expr} {ifs ifs1 : List Expr} {scope : Scope} {own : List (Str × Nat)} {vs1 : List Nat} {pos pos' : Pos} {wi : TI} {wi1 : WX → TI} {g g1 : TG} {tt tt1 : WX → TT} {te : WX → TE} {use : Option (Value → Sem Unit)} {Qf : Value → Shared → Prop}
    (hc : X.calm = true) (hN : X.N.Nodup) (I : Inv X pins σ H s) (hst : X.stack = X.env :: X.outer) (hf : X.env.frame = some X.env.locals) (tk : Takes X W) (hi : PI X tg iter wi) (ok : BlkOk X.N X.env.scope scope own) (hv : ∀ i ∈ vs1, i ∈ own.map (·.2))
    (hg : BlkX X scope fun Y _ => PG Y tg g) (ht : BlkX X scope fun Y W' => PTs Y ifs (tt W')) (he : BlkX X scope fun Y W' => PE Y elt (te W')) (hs : ∀ x, foldedSetIterable iter X.env x = pure x)
    (hi1 : BlkX X scope fun Y W' => PI Y tg1 iter1 (wi1 W')) (hg1 : BlkX X scope fun Y _ => PG Y tg1 g1) (ht1 : BlkX X scope fun Y W' => PTs Y ifs1 (tt1 W')) (hs1 : ∀ env x, foldedSetIterable iter1 env x = pure x)
    (h : tLc2 wi g (tt (WB W σ)) (wi1 (WB W σ)) g1 (tt1 (WB W σ)) (te (WB W σ)) (own.map (·.2)) vs1 σ H Q)
    (hRR : ∀ D (ce : Env) s' m H', Inv X pins σ H' s' → Q (.ref D) H' → s'.heap.Ns ce.locals m → FpOk X pins H' ce.locals → compEnds (model X.prog X.w) X.A X.xe use Qf (.ref D) ce (.ok .next) s') :
    wpAny (model X.prog X.w) X.A (comprehension (.ListComp elt [⟨tg, iter, ifs, 0⟩, ⟨tg1, iter1, ifs1, 0⟩] scope pos) scope X.env pos' (newList []) false (eval iter X.env) use) Qf X.xe s := by
  have hfree : ∀ y ∈ scope.names, y.2 = .free → ∃ c, X.env.cells.lookup y.1 = some c := fun y hy e => by
    rcases ok.free y hy e with k | k
    · exact I.ok.has _ (.inl k)
    · exact I.ok.has _ (.inr k)
  refine comprehension_at (use := use) rfl hs (closure_ok hfree) ok.kind (fun y hy e => by rw [ok.uniq y hy, e])
    (thn (hi.run pins s σ H _ I h) fun xv s1 hx => thn hx fun itv s2 h2 => ?_)
  obtain ⟨it, fp, tn, J, H2, e, I2, T, st2, f2, q⟩ := h2
  subst e
  refine wpAny_newObj_type (newEnv_comp ?_) (by show 0 ≤ sizeLine; decide)
  generalize hD : s2.heap.objs.size = D
  have hDn : H2 D = none := I2.hok.fresh (Nat.le_of_eq hD)
  obtain ⟨Wf, ⟨m0, w0⟩, turn⟩ := q D hDn
  -- the new list
  generalize hs3 : ({ s2 with heap := s2.heap.push { cls := .type "list", data := .seq ([] : List Value).toArray } } : Shared) = s3
  have I3 : Inv X pins σ (upd H2 D (.lst [])) s3 := by
    rw [← hs3]
    refine I2.laid (t' := s2.toks) (fun b o e => Heap.get?_push_of_some _ e) (Nat.le_of_eq hD) ⟨Nat.zero_le _, [], 0, .nil, ?_⟩
    rw [← hD]
    exact Heap.get?_push_size _ rfl
  have h3 : s3.heap = s2.heap.push { cls := .type "list", data := .seq ([] : List Value).toArray } := by rw [← hs3]
  have sz : ∀ b ∈ fp, b < s2.heap.objs.size := fun b hb => by
    obtain ⟨o, e, _⟩ := T.obj _ _ st2 b hb
    exact Heap.lt_size e
  have f3 : ∀ b ∈ fp, FpOk X pins (upd H2 D (.lst [])) b ∧ b < s3.heap.objs.size := fun b hb => by
    have hlt := sz b hb
    refine ⟨⟨?_, (f2 b hb).2⟩, by rw [h3, Heap.size_push]; exact Nat.lt_succ_of_lt hlt⟩
    rw [upd_ne (by rw [← hD]; exact Nat.ne_of_lt hlt)]
    exact (f2 b hb).1
  have st3 : tn 0 s3.heap := T.keep _ _ _ st2 fun b _ o e => by rw [h3]; exact Heap.get?_push_of_some _ e
  have I4 := block_start I3 ok hN f3
  have nfp : ∀ b ∈ fp, (upd H2 D (.lst [])) b = none := fun b hb => (f3 b hb).1.1
  -- what a block lets out is taken
  generalize hce : compEnvC scope (cellsFrom (s3.heap.objs.size + 1) scope.names (cloFrom X.env.cells scope.names [])) s3.heap.objs.size X.env = ce
  have cL : ce.locals = s3.heap.objs.size := by subst hce; rfl
  have cF : ce.frame = X.env.frame := by subst hce; rfl
  generalize hH3 : upd H2 D (.lst []) = H3 at I3 I4 w0 nfp f3
  have fail : ∀ {u : Value} {s' : Shared}, XN X s3 H3 scope ce fp (WB W σ) u s' → CompFails (model X.prog X.w) X.A X.xe ce u s' := fun {u s'} x =>
    x.fails I3 (fun b hb => (f3 b hb).1) cL hf cF tk fun cls d _ H w => w
  obtain ⟨x1, hx1⟩ : ∃ x1 : Value → Shared → Prop, x1 = notedBy (model X.prog X.w) X.A ce (fun e s' => compEnds (model X.prog X.w) X.A X.xe use Qf (.ref D) ce (.error e) s') := ⟨_, rfl⟩
  obtain ⟨x2, hx2⟩ : ∃ x2 : Value → Shared → Prop, x2 = notedBy (model X.prog X.w) X.A ce (fun e s' => cameBackBy (model X.prog X.w) X.A ce x1 e s') := ⟨_, rfl⟩
  have n1 : ∀ {u : Value} {s' : Shared}, XN X s3 H3 scope ce fp (WB W σ) u s' → x1 u s' := fun {u s'} x => by
    rw [hx1]
    exact wpAny_mono (noted2 hf cF x) (fun _ _ x' => fail x') fun _ _ e => e
  have tk1 : Takes (X.blx s3 H3 scope ce fp x1) (WB W σ) := fun u s' x => by
    show x1 u s'
    rw [hx1]
    exact wpAny_mono (noted1 hst hf I.ok.frames cF x) (fun _ _ x' => fail x') fun _ _ e => e
  have tk2 : Takes (X.blx s3 H3 scope ce fp x2) (WB W σ) := fun u s' x => by
    show x2 u s'
    rw [hx2]
    exact wpAny_mono (noted1 hst hf I.ok.frames cF x) (fun _ _ x' => cameBack hf cF x' fun _ y => n1 y) fun _ _ e => e
  have pg : PG (X.blx s3 H3 scope ce fp x1) tg g := by subst hce; exact hg _ x1 s3 H3 _ _ fp tk1
  have pt : PTs (X.blx s3 H3 scope ce fp x1) ifs (tt (WB W σ)) := by subst hce; exact ht _ x1 s3 H3 _ _ fp tk1
  have pi1 : PI (X.blx s3 H3 scope ce fp x1) tg1 iter1 (wi1 (WB W σ)) := by subst hce; exact hi1 _ x1 s3 H3 _ _ fp tk1
  have pe : PE (X.blx s3 H3 scope ce fp x2) elt (te (WB W σ)) := by subst hce; exact he _ x2 s3 H3 _ _ fp tk2
  have pg1 : PG (X.blx s3 H3 scope ce fp x2) tg1 g1 := by subst hce; exact hg1 _ x2 s3 H3 _ _ fp tk2
  have pt1 : PTs (X.blx s3 H3 scope ce fp x2) ifs1 (tt1 (WB W σ)) := by subst hce; exact ht1 _ x2 s3 H3 _ _ fp tk2
  rw [hce] at I4
  have I4 : Inv (X.blx s3 H3 scope ce fp x1) [] (wipe σ (own.map (·.2))) H3 _ := I4.wish x1
  show codeAny _ _ (.compStart (.ListComp elt [⟨tg, iter, ifs, 0⟩, ⟨tg1, iter1, ifs1, 0⟩] scope pos) 0 (.ref it) (.ref D) (compEnvC scope (cellsFrom (s3.heap.objs.size + 1) scope.names (cloFrom X.env.cells scope.names [])) s3.heap.objs.size X.env)) (compEnds (model X.prog X.w) X.A X.xe use Qf (.ref D) (compEnvC scope (cellsFrom (s3.heap.objs.size + 1) scope.names (cloFrom X.env.cells scope.names [])) s3.heap.objs.size X.env)) { s3 with heap := pushCells (s3.heap.push { cls := .type "dict", data := .dict #[] }) scope.names }
  rw [hce]
  generalize hs4 : ({ s3 with heap := pushCells (s3.heap.push { cls := .type "dict", data := .dict #[] }) scope.names } : Shared) = s4 at I4 ⊢
  have st4 : tn 0 s4.heap := T.keep _ _ _ st3 fun b _ o e => by rw [← hs4]; exact pushCells_keeps _ _ _ _ (Heap.get?_push_of_some _ e)
  have stat : ∀ {σ' : St} {H' : Hp} {s' : Shared}, Inv (X.blx s3 H3 scope ce fp x1) [] σ' H' s' → (∀ b ∈ fp, H' b = none) → ∀ b ∈ fp, FpOk (X.blx s3 H3 scope ce fp x1) [] H' b := fun {σ' H' s'} I' hn b hb =>
    ⟨hn b hb, (I'.ok.exf b hb).1, I'.ok.exfs b hb, .inl hb, fun x c e => (I'.ok.exf b hb).2 x c e, fun p hp => absurd (show p ∈ ([] : List (Addr × Obj)) ++ [] from hp) (by simp)⟩
  have loop : codeAny (model X.prog X.w) X.A (.compLoop (.ListComp elt [⟨tg, iter, ifs, 0⟩, ⟨tg1, iter1, ifs1, 0⟩] scope pos) 0 (.ref it) (.ref D) ce) (compEnds (model X.prog X.w) X.A X.xe use Qf (.ref D) ce) s4 := by
    refine loopX_out (hs1 ce) (fun n s' => ∃ i H', Inv (X.blx s3 H3 scope ce fp x1) [] (wipe σ (own.map (·.2))) H' s' ∧ tn i s'.heap ∧ (∀ b ∈ fp, H' b = none) ∧ Wf i n H') ?_ m0 ⟨0, H3, I4, st4, nfp, w0⟩
    rw [← hx1]
    rintro n s5 ⟨i, H5, I5, st5, n5, w5⟩
    rcases turn i n H5 w5 with ⟨stop, qq⟩ | ⟨go, Nx, hNx, step⟩
    · have td := T.done (X.blx s3 H3 scope ce fp x1) rfl rfl rfl hc i [] s5 _ H5 (fun _ _ => False) I5 (stat I5 n5) st5 stop
      refine thnF td fun r s6 ⟨hr, I6⟩ => ?_
      subst hr
      -- back in the def's context
      have I7 : Inv X pins σ H5 s6 := I3.call' (ch := fp) I6.os I6.base I6.hok I6.bare fun b hb => ⟨(f3 b hb).1.2.2.2.1, (f3 b hb).1.2.1, (f3 b hb).1.2.2.2.2.1, (f3 b hb).1.2.2.2.2.2⟩
      have nC : H5 ce.locals = none := I6.free
      obtain ⟨m, hn, _⟩ := I6.loc
      have hn : s6.heap.Ns ce.locals m := hn
      exact hRR D ce s6 m H5 I7 qq hn (by rw [cL] at nC ⊢; exact I3.fpOk (Nat.le_refl _) nC)
    · have ti := T.item (X.blx s3 H3 scope ce fp x1) rfl rfl rfl hc i [] s5 _ H5 (fun _ _ => False) I5 (stat I5 n5) st5 go
      refine thnF ti fun r s6 ⟨u, hr, h6⟩ => ?_
      subst hr
      refine thnF h6 fun _ s7 ⟨x, H7, I7, r7, y7, st7, n7⟩ => ?_
      have I7' := I7.pinned (stat I7 n7) (T.obj _ _ st7)
      refine thn (pg.run _ s7 _ H7 x u _ I7' r7 (step x H7 y7)) fun _ s8 ⟨σ8, H8, I8, hw8, q8⟩ => ?_
      refine thn (pt.run _ s8 σ8 H8 _ I8 q8) fun b s9 ⟨H9, I9, q9⟩ => ?_
      -- the turn's end, from any slots that know what the block knew at its start
      have fin : ∀ {σ9 : St} {s' : Shared} {H' : Hp}, Inv (X.blx s3 H3 scope ce fp x1) ([] ++ pinsAt fp s7.heap) σ9 H' s' → (wipe σ (own.map (·.2))).length = σ9.length → (∀ (j : Nat) v, (wipe σ (own.map (·.2)))[j]? = some (some v) → σ9[j]? = some (some v)) → Nx H' →
          ∃ m, m < n ∧ ∃ i H', Inv (X.blx s3 H3 scope ce fp x1) [] (wipe σ (own.map (·.2))) H' s' ∧ tn i s'.heap ∧ (∀ b ∈ fp, H' b = none) ∧ Wf i m H' := fun {σ9 s' H'} I' hl hk nx => by
        obtain ⟨m', hm, w'⟩ := hNx H' nx
        have pin' : ∀ b ∈ fp, ∀ o, s7.heap.get? b = some o → s'.heap.get? b = some o ∧ H' b = none := fun b hb o e =>
          let z := I'.pin (b, o) (List.mem_append_right _ (List.mem_append_right _ (mem_pinsAt hb e)))
          ⟨z.1, z.2.1⟩
        refine ⟨m', hm, i + 1, H', (I'.unpinned (pins := [])).weak hl hk, T.keep _ _ _ st7 fun b hb o e => (pin' b hb o e).1, fun b hb => ?_, w'⟩
        obtain ⟨o, e, _⟩ := T.obj _ _ st7 b hb
        exact (pin' b hb o e).2
      have hl8 : (wipe σ (own.map (·.2))).length = σ8.length := by rw [← hw8, wipe_length]
      have hk8 : ∀ (j : Nat) v, (wipe σ (own.map (·.2)))[j]? = some (some v) → σ8[j]? = some (some v) := fun j v e => by
        rw [← hw8] at e
        exact (wipe_some e).1
      have hk9 : ∀ (j : Nat) v, (wipe σ (own.map (·.2)))[j]? = some (some v) → (wipe σ8 vs1)[j]? = some (some v) := fun j v e => by
        rw [← hw8] at e
        obtain ⟨e1, e2⟩ := wipe_some e
        rw [wipe_out fun z => e2 (hv j z)]
        exact e1
      cases b with
      | false =>
        simp only [Bool.false_eq_true, if_false] at q9 ⊢
        exact fin I9 hl8 hk8 q9
      | true =>
        simp only [if_true] at q9 ⊢
        refine thn (pi1.run _ s9 σ8 H9 _ I9 q9) fun xv s10 hx => thn hx fun itv s11 h11 => ?_
        obtain ⟨it1, fp1, tn1, J1, H11, e1, I11, T1, st11, f11, W1, ⟨m1, w1⟩, turn1⟩ := h11
        subst e1
        -- the inner loop
        have stat1 : ∀ {H' : Hp}, (∀ b ∈ fp1, H' b = none) → ∀ b ∈ fp1, FpOk (X.blx s3 H3 scope ce fp x2) ([] ++ pinsAt fp s7.heap) H' b := fun hn b hb => ⟨hn b hb, (f11 b hb).2⟩
        have I11' : Inv (X.blx s3 H3 scope ce fp x2) ([] ++ pinsAt fp s7.heap) σ8 H11 s11 := (I11.unwish).wish x2
        have loop1 : codeAny (model X.prog X.w) X.A (.compLoop (.ListComp elt [⟨tg, iter, ifs, 0⟩, ⟨tg1, iter1, ifs1, 0⟩] scope pos) 1 (.ref it1) (.ref D) ce)
            (fun r s' => match r with
              | .ok _ => ∃ m, m < n ∧ ∃ i H', Inv (X.blx s3 H3 scope ce fp x1) [] (wipe σ (own.map (·.2))) H' s' ∧ tn i s'.heap ∧ (∀ b ∈ fp, H' b = none) ∧ Wf i m H'
              | .error e => cameBackBy (model X.prog X.w) X.A ce x1 e s') s11 := by
          refine compLoop2_in (fun k s' => ∃ j H', Inv (X.blx s3 H3 scope ce fp x2) ([] ++ pinsAt fp s7.heap) (wipe σ8 vs1) H' s' ∧ tn1 j s'.heap ∧ (∀ b ∈ fp1, H' b = none) ∧ W1 j k H') ?_ m1 ⟨0, H11, I11'.weak (wipe_length _ _) (fun j v e => (wipe_some e).1), st11, fun b hb => (f11 b hb).1, w1⟩
          rw [← hx2]
          rintro k s12 ⟨j, H12, I12, st12, n12, w12⟩
          rcases turn1 j k H12 w12 with ⟨stop1, nx1⟩ | ⟨go1, Nx1, hNx1, step1⟩
          · refine thnF (T1.done (X.blx s3 H3 scope ce fp x2) rfl rfl rfl hc j _ s12 (wipe σ8 vs1) H12 (fun _ _ => False) I12 (stat1 n12) st12 stop1) fun r s13 ⟨hr, I13⟩ => ?_
            subst hr
            exact fin (I13.unwish.wish x1) (hl8.trans (wipe_length σ8 vs1).symm) hk9 nx1
          · refine thnF (T1.item (X.blx s3 H3 scope ce fp x2) rfl rfl rfl hc j _ s12 (wipe σ8 vs1) H12 (fun _ _ => False) I12 (stat1 n12) st12 go1) fun r s13 ⟨u1, hr, h13⟩ => ?_
            subst hr
            refine thnF h13 fun _ s14 ⟨x1v, H14, I14, r14, y14, st14, n14⟩ => ?_
            have I14' := I14.pinned (stat1 n14) (T1.obj _ _ st14)
            refine thn (pg1.run _ s14 (wipe σ8 vs1) H14 x1v u1 _ I14' r14 (step1 x1v H14 y14)) fun _ s15 ⟨σ15, H15, I15, hw15, q15⟩ => ?_
            refine thn (pt1.run _ s15 σ15 H15 _ I15 q15) fun b1 s16 ⟨H16, I16, q16⟩ => ?_
            have fin1 : ∀ {s' : Shared} {H' : Hp}, Inv (X.blx s3 H3 scope ce fp x2) (([] ++ pinsAt fp s7.heap) ++ pinsAt fp1 s14.heap) σ15 H' s' → Nx1 H' → ∃ m, m < k ∧ ∃ j H', Inv (X.blx s3 H3 scope ce fp x2) ([] ++ pinsAt fp s7.heap) (wipe σ8 vs1) H' s' ∧ tn1 j s'.heap ∧ (∀ b ∈ fp1, H' b = none) ∧ W1 j m H' := fun {s' H'} I' nx => by
              obtain ⟨m', hm, w'⟩ := hNx1 H' nx
              have pin' : ∀ b ∈ fp1, ∀ o, s14.heap.get? b = some o → s'.heap.get? b = some o ∧ H' b = none := fun b hb o e =>
                let z := I'.pin (b, o) (List.mem_append_right _ (List.mem_append_right _ (mem_pinsAt hb e)))
                ⟨z.1, z.2.1⟩
              refine ⟨m', hm, j + 1, H', I'.unpinned.weak (by rw [← hw15, wipe_length]) (fun j v e => by rw [← hw15] at e; exact (wipe_some e).1), T1.keep _ _ _ st14 fun b hb o e => (pin' b hb o e).1, fun b hb => ?_, w'⟩
              obtain ⟨o, e, _⟩ := T1.obj _ _ st14 b hb
              exact (pin' b hb o e).2
            cases b1 with
            | false =>
              simp only [Bool.false_eq_true, if_false] at q16 ⊢
              exact fin1 I16 q16
            | true =>
              simp only [if_true] at q16 ⊢
              refine thn (pe.run _ s16 σ15 H16 _ I16 q16) fun z s17 ⟨yv, H17, I17, r17, acc, hD17, hz17, nx⟩ => ?_
              exact app_ok (X := X.blx s3 H3 scope ce fp x2) I17 hD17 hz17 r17 fun s18 I18 => fin1 I18 nx
        exact compStart1_ok loop1 (T1.self X.A 0 _ _ _ st11 loop1)
  exact codeAny_compStart_list loop (T.self X.A 0 _ _ _ st4 loop)
/-- as a value -/
theorem pe_lcX {W : WX} {elt tg iter tg1 iter1 : Expr} {ifs ifs1 : List Expr} {scope : Scope} {own : List (Str × Nat)} {vs1 : List Nat} {pos : Pos} {wi : TI} {wi1 : WX → TI} {g g1 : TG} {tt tt1 : WX → TT} {te : WX → TE} (hc : X.calm = true) (hN : X.N.Nodup) (hst : X.stack = X.env :: X.outer) (hf : X.env.frame = some X.env.locals) (tk : Takes X W) (hi : PI X tg iter wi) (ok : BlkOk X.N X.env.scope scope own) (hv : ∀ i ∈ vs1, i ∈ own.map (·.2))
    (hg : BlkX X scope fun Y _ => PG Y tg g) (ht : BlkX X scope fun Y W' => PTs Y ifs (tt W')) (hi1 : BlkX X scope fun Y W' => PI Y tg1 iter1 (wi1 W')) (hg1 : BlkX X scope fun Y _ => PG Y tg1 g1) (ht1 : BlkX X scope fun Y W' => PTs Y ifs1 (tt1 W')) (he : BlkX X scope fun Y W' => PE Y elt (te W'))
    (hs : ∀ x, foldedSetIterable iter X.env x = pure x := by intro _; rfl) (hs1 : ∀ env x, foldedSetIterable iter1 env x = pure x := by intro _ _; rfl) :
    PE X (.ListComp elt [⟨tg, iter, ifs, 0⟩, ⟨tg1, iter1, ifs1, 0⟩] scope pos) (fun σ H Q => tLc2 wi g (tt (WB W σ)) (wi1 (WB W σ)) g1 (tt1 (WB W σ)) (te (WB W σ)) (own.map (·.2)) vs1 σ H Q) := by
  refine ⟨fun pins s σ H Q I h => ?_⟩
  rw [eval_ListComp]
  refine lcX_core hc hN I hst hf tk hi ok hv hg ht he hs hi1 hg1 ht1 hs1 h fun D ce s' m H' I' q hn f => ⟨m, hn, fun h'' sb => ?_⟩
  obtain ⟨f0, f1, f2, f3, f4, f5⟩ := f
  exact ⟨.ref D, H', I'.turned (t' := s'.toks) (fun b o hb e => (sb.2 b hb).trans e) f0 f1 f3 f4 f5, rfl, q⟩
end
end L2
/-! # Mirrors of comprehensions over two, out of which an exception may go -/
namespace MI
open PySem L2
def compGoX (vs : List Nat) (t : D → S → Option S) (c : S → Res Bool) (e : S → Res D) : List D → List D → S → Res (List D)
  | [], acc, s => .ok acc s
  | d :: ds, acc, s => match t d s with
    | none => .stuck
    | some s1 => (c s1).bind fun b s2 => if b = true then (e s2).bind fun y s3 => if acc.length < sizeLine then compGoX vs t c e ds (acc ++ [y]) (wipeS s3 vs) else .stuck
        else compGoX vs t c e ds acc (wipeS s2 vs)
def compGo2X (vs vs1 : List Nat) (t : D → S → Option S) (c : S → Res Bool) (it1 : S → Res (List D)) (t1 : D → S → Option S) (c1 : S → Res Bool) (e : S → Res D) : List D → List D → S → Res (List D)
  | [], acc, s => .ok acc s
  | d :: ds, acc, s => match t d s with
    | none => .stuck
    | some s1 => (c s1).bind fun b s2 => if b = true then (it1 s2).bind fun ds1 s3 => (compGoX vs1 t1 c1 e ds1 acc (wipeS s3 vs1)).bind fun acc1 s4 => compGo2X vs vs1 t c it1 t1 c1 e ds acc1 (wipeS s4 vs)
        else compGo2X vs vs1 t c it1 t1 c1 e ds acc (wipeS s2 vs)
def endX (vs : List Nat) (s1 : S) : Res (List D) → Res RV
  | .ok acc s2 => .ok (.new (.lst acc)) { s2 with env := restE s1.env s2.env vs }
  | .exc c p s2 => .exc c p { s2 with env := restE s1.env (wipeE s2.env vs) vs }
  | .stuck => .stuck
def mComp2X (vs vs1 : List Nat) (it : S → Res (List D)) (t : D → S → Option S) (c : S → Res Bool) (it1 : S → Res (List D)) (t1 : D → S → Option S) (c1 : S → Res Bool) (e : M) : M := fun s => (it s).bind fun ds s1 => if noOwn s1.env vs = true then endX vs s1 (compGo2X vs vs1 t c it1 t1 c1 (mLeak e) ds [] (wipeS s1 vs)) else .stuck
section
variable {K : PySem.W.Frag} {D : Addr} {g0 g : G} {H0 H : Hp} {acc : List MI.D} {avs : List V}
/-- the inner loop -/
theorem loop_inX {vs1 is1 : List Nat} {gt1 : TG} {t1 : MI.D → S → Option S} {mc1 : S → Res Bool} {me : M} {σ2 : St} {W' : WX} (hgt : MGk K gt1 is1 t1) (hsub : ∀ i ∈ is1, i ∈ vs1) {J1 : It} {ds1 : List MI.D} {gA : G} (hJ : Walk K J1 ds1 gA)
    {acc0 : List MI.D} {avs0 : List V} {sA : S} {r1 : Res (List MI.D)} (k0 : Kp K D g0 H0 gA H acc0 avs0) (oA : Ok K gA sA (wipe σ2 vs1) H) (hgo : compGoX vs1 t1 mc1 (mLeak me) ds1 acc0 sA = r1) (hns : r1 ≠ .stuck) {Nx : Hp → Prop}
    (hN : ∀ acc1 s1f g' H' avs, r1 = .ok acc1 s1f → GLe gA g' → Kp K D g0 H0 g' H' acc1 avs → Ok K g' s1f (wipe σ2 vs1) H' → Nx H')
    (hE : ∀ c p s0 cls d g' H' acc avs σ', r1 = .exc c p s0 → Kp K D g0 H0 g' H' acc avs → Ok K g' s0 σ' H' → wipe σ' vs1 = wipe σ2 vs1 → ExcRep K g' H' cls d c p → W' cls d σ' H') :
    ∃ W1 : Nat → Nat → Hp → Prop, (∃ m, W1 0 m H) ∧ ∀ j k H, W1 j k H →
      (J1.stop j H ∧ Nx H) ∨ (J1.go j H ∧ ∃ Nx1 : Hp → Prop, (∀ H', Nx1 H' → ∃ k', k' < k ∧ W1 (j + 1) k' H') ∧ ∀ x H', J1.yld j H x H' → gt1 x (wipe σ2 vs1) H' fun σ3 H5 => wipe σ3 vs1 = wipe σ2 vs1 ∧ tMT K W' mc1 σ3 H5 fun b H6 =>
        if b = true then tM K W' me σ3 H6 fun y H7 => ∃ acc, H7 D = some (.lst acc) ∧ acc.length < sizeLine ∧ Nx1 (upd H7 D (.lst (acc ++ [y]))) else Nx1 H6) := by
  refine ⟨fun j k H' => k = ds1.length - j ∧ j ≤ ds1.length ∧ ∃ g' s' acc avs, GLe gA g' ∧ Kp K D g0 H0 g' H' acc avs ∧ Ok K g' s' (wipe σ2 vs1) H' ∧ compGoX vs1 t1 mc1 (mLeak me) (ds1.drop j) acc s' = r1,
    ⟨ds1.length, by simp, Nat.zero_le _, gA, sA, acc0, avs0, GLe.refl _, k0, oA, by simpa using hgo⟩, ?_⟩
  rintro j k H' ⟨rfl, hj, g', s', acc, avs, lg, kp, o', hg'⟩
  obtain ⟨stp, go⟩ := hJ g' s' _ H' lg o'
  by_cases hlt : j < ds1.length
  · obtain ⟨d, hd⟩ : ∃ d, ds1[j]? = some d := ⟨_, List.getElem?_eq_getElem hlt⟩
    have hdrop : ds1.drop j = d :: ds1.drop (j + 1) := by
      rw [List.drop_eq_getElem_cons hlt]
      congr 1
      rw [List.getElem?_eq_getElem hlt] at hd
      exact Option.some.inj hd
    obtain ⟨go1, yl⟩ := go j d hd
    refine .inr ⟨go1, fun H3 => ∃ g3 s3 acc avs, GLe gA g3 ∧ Kp K D g0 H0 g3 H3 acc avs ∧ Ok K g3 s3 (wipe σ2 vs1) H3 ∧ compGoX vs1 t1 mc1 (mLeak me) (ds1.drop (j + 1)) acc s3 = r1, fun H3 z => ⟨ds1.length - (j + 1), by omega, rfl, hlt, z⟩, fun x H2 y => ?_⟩
    obtain ⟨g2, t2, k2, o2, r2⟩ := yl x H2 y
    rw [hdrop] at hg'
    unfold compGoX at hg'
    cases e : t1 d s' with
    | none => simp only [e] at hg'; exact absurd hg'.symm hns
    | some s2 =>
      simp only [e] at hg'
      obtain ⟨ws, o2', hQ⟩ := hgt g2 s' (wipe σ2 vs1) H2 x d s2 o2 r2 e
      have wq : wipe (setAll (wipe σ2 vs1) is1 ws) vs1 = wipe σ2 vs1 := wipe_setAll hsub
      refine hQ _ ⟨wq, g2, s2, o2', ?_⟩
      have kp2 := kp.step t2 k2
      have lg2 := lg.trans t2.le
      cases e2 : mc1 s2 with
      | ok b s3 =>
        simp only [e2, Res.bind_ok] at hg'
        intro g3 H3 t3 k3 o3
        show (if b = true then _ else _)
        cases b with
        | true =>
          rw [if_pos rfl] at hg'
          rw [if_pos rfl]
          unfold mLeak at hg'
          refine ⟨g3, s3, o3, ?_⟩
          cases e3 : me s3 with
          | ok r s4 =>
            simp only [e3, Res.bind_ok] at hg'
            intro g4 H4 t4 k4 o4 v rv
            cases e4 : leak r s4 with
            | none => simp only [e4, Res.bind_stuck] at hg'; exact absurd hg'.symm hns
            | some pr =>
              obtain ⟨y, s5⟩ := pr
              simp only [e4, Res.bind_ok] at hg'
              obtain ⟨g5, t5, k5, o5, ry⟩ := leak_ok o4 rv e4
              have kp5 := kp2.step ((t3.trans t4).trans t5) ((k3.trans k4).trans k5)
              by_cases hz : acc.length < sizeLine
              · rw [if_pos hz] at hg'
                obtain ⟨kp6, o6⟩ := kp5.grow o5 ry
                have ow := o6.wipe (vs := vs1)
                rw [wq] at ow
                exact ⟨avs, kp5.at_, by rw [kp5.rep.length]; exact hz, g5, wipeS s5 vs1, acc ++ [y], avs ++ [v], lg2.trans ((t3.trans t4).trans t5).le, kp6, ow, hg'⟩
              · rw [if_neg hz] at hg'; exact absurd hg'.symm hns
          | exc c p s4 =>
            simp only [e3, Res.bind_exc] at hg'
            intro cls d g4 H4 t4 k4 o4 x4
            exact hE c p s4 cls d g4 H4 acc avs _ hg'.symm (kp2.step (t3.trans t4) (k3.trans k4)) o4 wq x4
          | stuck => simp only [e3, Res.bind_stuck] at hg'; exact absurd hg'.symm hns
        | false =>
          rw [if_neg (by decide)] at hg'
          rw [if_neg (by decide)]
          have ow := o3.wipe (vs := vs1)
          rw [wq] at ow
          exact ⟨g3, wipeS s3 vs1, acc, avs, lg2.trans t3.le, kp2.step t3 k3, ow, hg'⟩
      | exc c p s3 =>
        simp only [e2, Res.bind_exc] at hg'
        intro cls d g4 H4 t4 k4 o4 x4
        exact hE c p s3 cls d g4 H4 acc avs _ hg'.symm (kp2.step t4 k4) o4 wq x4
      | stuck => simp only [e2, Res.bind_stuck] at hg'; exact absurd hg'.symm hns
  · have e : j = ds1.length := by omega
    subst e
    refine .inl ⟨stp, ?_⟩
    rw [List.drop_length] at hg'
    exact hN acc s' g' H' avs hg'.symm lg kp o'
end
section
variable {X : Cx} {W : WX}
theorem tLc2_ofX {vs vs1 is is1 : List Nat} {it it1 : S → Res (List D)} {gt gt1 : TG} {t t1 : D → S → Option S} {mc mc1 : S → Res Bool} {me : M} {σ : St} {H : Hp} {Q : VK} {g : G} {s : S}
    (hgt : MGk X.K gt is t) (hsub : ∀ i ∈ is, i ∈ vs) (hgt1 : MGk X.K gt1 is1 t1) (hsub1 : ∀ i ∈ is1, i ∈ vs1) (hv : ∀ i ∈ vs1, i ∈ vs)
    (ok : Ok X.K g s σ H) (h : PostE X.K W σ g s H (kE X.K Q) (mComp2X vs vs1 it t mc it1 t1 mc1 me s)) :
    tLc2 (tMI X.K W it) gt (tMT X.K (WB W σ) mc) (tMI X.K (WB W σ) it1) gt1 (tMT X.K (WB W σ) mc1) (tM X.K (WB W σ) me) vs vs1 σ H Q := by
  refine ⟨g, s, ok, (PostE.bind h).mono fun ds g1 s1 H1 tt1 k1 o1 h1 J hJ D hD => ?_⟩
  split at h1
  · rename_i hno
    obtain ⟨r, hr⟩ : ∃ r, compGo2X vs vs1 t mc it1 t1 mc1 (mLeak me) ds [] (wipeS s1 vs) = r := ⟨_, rfl⟩
    rw [hr] at h1
    have hns : r ≠ .stuck := fun z => by rw [z] at h1; exact h1
    have hexc : ∀ c p s0 cls d g' H' acc avs σ', r = .exc c p s0 → Kp X.K D g1 H1 g' H' acc avs → Ok X.K g' s0 σ' H' → wipe σ' vs = wipe σ vs → ExcRep X.K g' H' cls d c p → W cls d σ H' := by
      intro c p s0 cls d g' H' acc avs σ' er kp o' hw x
      rw [er] at h1
      have npD : ¬ g1.P D := o1.pnone hD
      have lg := kp.le
      have ow := o'.wipe (vs := vs)
      rw [hw] at ow
      have ob := ow.unhold (g0 := g1) (a := D) kp.pp
      have obr := o1.rest hno ob (show GLe g1 (g'.wP g1.P) from ⟨lg.F, lg.ng, lg.adr⟩)
      refine h1 cls d (g'.wP g1.P) H' ⟨⟨lg.F, lg.ng, lg.adr⟩, rfl, fun b hb => ?_⟩ kp.sk obr (x.mono wP_le)
      have hbD : b ≠ D := fun z => npD (z ▸ hb)
      have q := kp.st.keep b (.inl hb)
      rw [upd_ne hbD, upd_ne hbD] at q
      exact q
    have ok2 := o1.grow (o := .lst []) hD
    have hold := ok2.hold (a := D) (u := .lst []) upd_same (o1.fnone hD) (o1.lnone hD)
    refine ⟨fun i m H' => m = ds.length - i ∧ i ≤ ds.length ∧ ∃ g' s' acc avs, Kp X.K D g1 H1 g' H' acc avs ∧ Ok X.K g' s' (wipe σ vs) H' ∧ compGo2X vs vs1 t mc it1 t1 mc1 (mLeak me) (ds.drop i) acc s' = r,
      ⟨ds.length, by simp, Nat.zero_le _, g1.hold D, wipeS s1 vs, [], [], ⟨⟨⟨Sub.refl _, Nat.le_refl _, fun _ _ => rfl⟩, rfl, fun b _ => by rw [upd_upd]⟩, SlKeep.refl _, rfl, upd_same, .nil⟩, hold.wipe, by simpa using hr⟩, ?_⟩
    rintro i m H' ⟨rfl, hi, g', s', acc, avs, kp, o', hg'⟩
    obtain ⟨stp, go⟩ := hJ g' s' _ H' kp.le o'
    by_cases hlt : i < ds.length
    · obtain ⟨d, hd⟩ : ∃ d, ds[i]? = some d := ⟨_, List.getElem?_eq_getElem hlt⟩
      have hdrop : ds.drop i = d :: ds.drop (i + 1) := by
        rw [List.drop_eq_getElem_cons hlt]
        congr 1
        rw [List.getElem?_eq_getElem hlt] at hd
        exact Option.some.inj hd
      obtain ⟨go1, yl⟩ := go i d hd
      refine .inr ⟨go1, fun H3 => ∃ g3 s3 acc avs, Kp X.K D g1 H1 g3 H3 acc avs ∧ Ok X.K g3 s3 (wipe σ vs) H3 ∧ compGo2X vs vs1 t mc it1 t1 mc1 (mLeak me) (ds.drop (i + 1)) acc s3 = r, fun H3 z => ⟨ds.length - (i + 1), by omega, rfl, hlt, z⟩, fun x H2 y => ?_⟩
      obtain ⟨g2, t2, k2, o2, r2⟩ := yl x H2 y
      rw [hdrop] at hg'
      unfold compGo2X at hg'
      cases e : t d s' with
      | none => simp only [e] at hg'; exact absurd hg'.symm hns
      | some s2 =>
        simp only [e] at hg'
        obtain ⟨ws, o2', hQ⟩ := hgt g2 s' (wipe σ vs) H2 x d s2 o2 r2 e
        have wq : wipe (setAll (wipe σ vs) is ws) vs = wipe σ vs := wipe_setAll hsub
        refine hQ _ ⟨wq, g2, s2, o2', ?_⟩
        have kp2 := kp.step t2 k2
        cases e2 : mc s2 with
        | ok b s3 =>
          simp only [e2, Res.bind_ok] at hg'
          intro g3 H3 t3 k3 o3
          show (if b = true then _ else _)
          have kp3 := kp2.step t3 k3
          cases b with
          | true =>
            rw [if_pos rfl] at hg'
            rw [if_pos rfl]
            refine ⟨g3, s3, o3, ?_⟩
            cases e3 : it1 s3 with
            | ok ds1 s4 =>
              simp only [e3, Res.bind_ok] at hg'
              intro g4 H4 t4 k4 o4 J1 hJ1
              have kp4 := kp3.step t4 k4
              refine loop_inX hgt1 hsub1 hJ1 kp4 o4.wipe rfl (fun z => by rw [z] at hg'; exact absurd hg'.symm hns) (fun acc1 s1f g6 H6 avs6 er lg6 kp6 o6 => ?_) fun c p s0 cls d g6 H6 acc6 avs6 σ6 er kp6 o6 hw6 x6 => ?_
              · have ow := o6.wipe (vs := vs)
                rw [wipe_in hv, wq] at ow
                rw [er] at hg'
                exact ⟨g6, wipeS s1f vs, acc1, avs6, kp6, ow, hg'⟩
              · rw [er] at hg'
                refine hexc c p s0 cls d g6 H6 acc6 avs6 σ6 hg'.symm kp6 o6 ?_ x6
                rw [← wipe_in (σ := σ6) hv, hw6, wipe_in hv, wq]
            | exc c p s4 =>
              simp only [e3, Res.bind_exc] at hg'
              intro cls d g4 H4 t4 k4 o4 x4
              exact hexc c p s4 cls d g4 H4 acc avs _ hg'.symm (kp3.step t4 k4) o4 wq x4
            | stuck => simp only [e3, Res.bind_stuck] at hg'; exact absurd hg'.symm hns
          | false =>
            rw [if_neg (by decide)] at hg'
            rw [if_neg (by decide)]
            have ow := o3.wipe (vs := vs)
            rw [wq] at ow
            exact ⟨g3, wipeS s3 vs, acc, avs, kp3, ow, hg'⟩
        | exc c p s3 =>
          simp only [e2, Res.bind_exc] at hg'
          intro cls d g4 H4 t4 k4 o4 x4
          exact hexc c p s3 cls d g4 H4 acc avs _ hg'.symm (kp2.step t4 k4) o4 wq x4
        | stuck => simp only [e2, Res.bind_stuck] at hg'; exact absurd hg'.symm hns
    · have e : i = ds.length := by omega
      subst e
      refine .inl ⟨stp, ?_⟩
      rw [List.drop_length] at hg'
      unfold compGo2X at hg'
      rw [← hg'] at h1
      have ob := o'.unhold (g0 := g1) (a := D) kp.pp
      obtain ⟨_, fD, lD⟩ := o'.prot D kp.pD
      have npD : ¬ g1.P D := o1.pnone hD
      have lg := kp.le
      have obr := o1.rest hno ob (show GLe g1 (g'.wP g1.P) from ⟨lg.F, lg.ng, lg.adr⟩)
      refine h1 (g'.wP g1.P) H' ⟨⟨lg.F, lg.ng, lg.adr⟩, rfl, fun b hb => ?_⟩ kp.sk obr (.ref D) ⟨D, rfl, fD, npD, fun ⟨l, o, e, z⟩ => lD ?_, avs, kp.at_, kp.rep.mono wP_le⟩
      · have hbD : b ≠ D := fun z => npD (z ▸ hb)
        have q := kp.st.keep b (.inl hb)
        rw [upd_ne hbD, upd_ne hbD] at q
        exact q
      · cases l with
        | gl n => exact ⟨.gl n, o, e, z⟩
        | sl j =>
          have hl : s1.env.length = s'.env.length := by
            have h1 := o1.len
            have h2 := o'.len
            rw [wipe_length] at h2
            omega
          have e' : (match (restE s1.env s'.env vs)[j]? with | some (.own o) => some o | _ => none) = some o := e
          rw [restE_get _ _ hl] at e'
          by_cases hj : j ∈ vs
          · rw [if_pos hj] at e'
            split at e'
            · rename_i w q
              have := List.all_eq_true.mp hno j hj
              rw [q] at this
              cases this
            · cases e'
          · rw [if_neg hj] at e'
            exact ⟨.sl j, o, e', z⟩
  · exact h1.elim
variable {elt tg iter tg1 iter1 : Expr} {ifs ifs1 : List Expr} {scope : Scope} {own : List (Str × Nat)} {pos : Pos} {it it1 : S → Res (List D)} {gt gt1 : TG} {vs1 is is1 : List Nat} {t t1 : D → S → Option S} {mc mc1 : S → Res Bool} {me : M}
theorem me_comp2X (hc : X.calm = true) (hN : X.N.Nodup) (hst : X.stack = X.env :: X.outer) (hf : X.env.frame = some X.env.locals) (tk : Takes X W) (hi : MIt X W tg iter it) (ok : BlkOk X.N X.env.scope scope own) (hv : ∀ i ∈ vs1, i ∈ own.map (·.2)) (hgk : MGk X.K gt is t) (hsub : ∀ i ∈ is, i ∈ own.map (·.2)) (hgk1 : MGk X.K gt1 is1 t1) (hsub1 : ∀ i ∈ is1, i ∈ vs1)
    (hg : BlkX X scope fun Y _ => PG Y tg gt) (ht : BlkX X scope fun Y W' => MTs Y W' ifs mc) (hi1 : BlkX X scope fun Y W' => MIt Y W' tg1 iter1 it1) (hg1 : BlkX X scope fun Y _ => PG Y tg1 gt1) (ht1 : BlkX X scope fun Y W' => MTs Y W' ifs1 mc1) (he : BlkX X scope fun Y W' => ME Y W' elt me)
    (hs : ∀ x, foldedSetIterable iter X.env x = pure x := by intro _; rfl) (hs1 : ∀ env x, foldedSetIterable iter1 env x = pure x := by intro _ _; rfl) :
    ME X W (.ListComp elt [⟨tg, iter, ifs, 0⟩, ⟨tg1, iter1, ifs1, 0⟩] scope pos) (mComp2X (own.map (·.2)) vs1 it t mc it1 t1 mc1 me) := by
  have z := pe_lcX (W := W) (pos := pos) (tt := fun W' => tMT X.K W' mc) (tt1 := fun W' => tMT X.K W' mc1) (wi1 := fun W' => tMI X.K W' it1) (te := fun W' => tM X.K W' me) hc hN hst hf tk hi ok hv hg ht hi1 hg1 ht1 he hs hs1
  refine pe_imp z fun σ H Q h => ?_
  obtain ⟨g, s, o, h⟩ := h
  exact tLc2_ofX hgk hsub hgk1 hsub1 hv o h
end
end MI
/-! # Own classes: fields, methods, making -/
namespace MI
open PySem PySem.Spec PyProof.Rows L2
/-- a field is set -/
def putD (f : Str) (d : D) : List (Str × D) → List (Str × D)
  | [] => [(f, d)]
  | (g, x) :: r => if g = f then (g, d) :: r else (g, x) :: putD f d r
section
variable {K : PySem.W.Frag} {g : G}
theorem RepF.put {f : Str} {v : V} {d : D} (h : Rep K g v d) : ∀ {vs : List (Str × V)} {ds : List (Str × D)}, RepF K g vs ds → RepF K g (putF f v vs) (putD f d ds)
  | _, _, .nil => .cons h .nil
  | _, _, .cons (k := k) a b => by
    unfold putF putD
    by_cases z : k = f
    · rw [if_pos z, if_pos z]; exact .cons h b
    · rw [if_neg z, if_neg z]; exact .cons a (RepF.put h b)
theorem RepF.look {f : Str} {d : D} : ∀ {vs : List (Str × V)} {ds : List (Str × D)}, RepF K g vs ds → ds.lookup f = some d → ∃ v, vs.lookup f = some v ∧ Rep K g v d
  | _, _, .nil, e => by simp at e
  | _, _, .cons (k := k) a b, e => by
    rw [List.lookup_cons] at e ⊢
    cases z : f == k with
    | true => rw [z] at e; cases e; exact ⟨_, rfl, a⟩
    | false => rw [z] at e; exact RepF.look b e
theorem RepF.lookN {f : Str} : ∀ {vs : List (Str × V)} {ds : List (Str × D)}, RepF K g vs ds → ds.lookup f = none → vs.lookup f = none
  | _, _, .nil, _ => rfl
  | _, _, .cons (k := k) a b, e => by
    rw [List.lookup_cons] at e ⊢
    cases z : f == k with
    | true => rw [z] at e; cases e
    | false => rw [z] at e; exact RepF.lookN b e
theorem RepF.length : ∀ {vs : List (Str × V)} {ds : List (Str × D)}, RepF K g vs ds → vs.length = ds.length
  | _, _, .nil => rfl
  | _, _, .cons _ b => by rw [List.length_cons, List.length_cons, RepF.length b]
end
/-- the fields of the object that r is, of the class c -/
def insOf (c : Str) (s : S) (l : Loc) : Option (List (Str × D)) := match cellOf s l with
  | some (.ins c' fs) => if c' = c then some fs else none
  | _ => none
theorem insOf_ok {c : Str} {s : S} {l : Loc} {fs : List (Str × D)} (e : insOf c s l = some fs) : cellOf s l = some (.ins c fs) := by
  unfold insOf at e
  split at e
  · rename_i c' fs' h
    split at e
    · rename_i z; cases e; rw [h, z]
    · cases e
  · cases e
/-- o.f -/
def mFld (c f : Str) (o : M) : M := fun s => (o s).bind fun r s1 => match locOf r with
  | some l => (match insOf c s1 l with
    | some fs => (match fs.lookup f with
      | some d => .ok (.d d) s1
      | none => .stuck)
    | none => .stuck)
  | none => .stuck
/-- o.f = e -/
def mSetFld (c f : Str) (o m : M) : S → Res Out := fun s => (mLeak m s).bind fun d s1 => (o s1).bind fun r s2 => match locOf r with
  | some l => (match insOf c s2 l with
    | some fs => if fs.length < 1000 then .ok .nx (setCell s2 l (.ins c (putD f d fs))) else .stuck
    | none => .stuck)
  | none => .stuck
/-- o.f += e, ints -/
def mAugFld (c f : Str) (op : Int → Int → Int) (o m : M) : S → Res Out := fun s => (o s).bind fun r s1 => match locOf r with
  | some l => (match insOf c s1 l with
    | some fs => (match fs.lookup f with
      | some (.int i) => (mLeak m s1).bind fun d s2 => (match d, insOf c s2 l with
        | .int j, some fs2 => if fs2.length < 1000 then .ok .nx (setCell s2 l (.ins c (putD f (.int (op i j)) fs2))) else .stuck
        | _, _ => .stuck)
      | _ => .stuck)
    | none => .stuck)
  | none => .stuck
section
variable {X : Cx} {W : WX} {o e : Expr} {mo me : M} {c f : Str} {pos pos' tpos : Pos}
theorem me_fld (hc : L2.Cls X.K (He.ga X.K c)) (hn : NoAttr X.K (He.ga X.K c) f) (ho : ME X W o mo) (hb : attributeBase o f X.env (eval o X.env) = eval o X.env := by rfl) : ME X W (.Attribute o f pos) (mFld c f mo) := by
  refine pe_imp (pe_fld ho hb) fun σ H Q ⟨g, s, ok, h⟩ => ?_
  refine ⟨g, s, ok, (PostE.bind h).mono fun r g1 s1 H1 t1 k1 o1 h1 v rv => ?_⟩
  split at h1
  · rename_i l el
    split at h1
    · rename_i fs efs
      split at h1
      · rename_i d ed
        have ev := locOf_ok rv el
        obtain ⟨_, dx, vs, eh, rf⟩ := o1.cell l _ (insOf_ok efs)
        obtain ⟨u, eu, ru⟩ := rf.look ed
        exact ⟨_, _, dx, vs, u, ev, eh, hc, hn, eu, PostE.done h1 o1 u ru⟩
      · exact h1.elim
    · exact h1.elim
  · exact h1.elim
theorem ms_setFld (hc : L2.Cls X.K (He.ga X.K c)) (hn : NoAttr X.K (He.ga X.K c) f) (ho : ME X W o mo) (he : ME X W e me) (hs : swapsWith e (some (.Attribute o f pos')) pos.line X.env = pure false := by rfl) : MS X W (.Assign [.Attribute o f pos'] e pos) (mSetFld c f mo me) := by
  refine ps_imp (ps_fld ho he hs) fun D σ H ⟨g, s, ok, h⟩ => ?_
  refine tM_leak ok (PostS.bind h) fun d g1 s1 H1 v t1 k1 o1 rv h1 => ?_
  refine ⟨g1, s1, o1, (PostS.bind h1).mono fun r g2 s2 H2 t2 k2 o2 h2 x rx => ?_⟩
  split at h2
  · rename_i l el
    split at h2
    · rename_i fs efs
      split at h2
      · rename_i hl
        have ev := locOf_ok rx el
        have ce := insOf_ok efs
        obtain ⟨_, dx, vs, eh, rf⟩ := o2.cell l _ ce
        obtain ⟨o3, t3⟩ := o2.change (o' := .ins c (putD f d fs)) (ho := .ins (He.ga X.K c) dx (putF f v vs)) ce ⟨dx, _, upd_same, rf.put (rv.mono t2.le)⟩
        exact ⟨_, _, dx, vs, ev, eh, hc, hn, by rw [rf.length]; exact hl, h2 _ g2 _ t3 o3⟩
      · exact h2.elim
    · exact h2.elim
  · exact h2.elim
theorem ms_augFld (hc : L2.Cls X.K (He.ga X.K c)) (hn : NoAttr X.K (He.ga X.K c) f) (ho : ME X W o mo) (he : ME X W e me) : MS X W (.AugAssign (.Attribute o f tpos) .Add e pos) (mAugFld c f (fun i j => i + j) mo me) := by
  refine ps_imp (ps_fldaug ho he in_add) fun D σ H ⟨g, s, ok, h⟩ => ?_
  refine ⟨g, s, ok, (PostS.bind h).mono fun r g1 s1 H1 t1 k1 o1 h1 x rx => ?_⟩
  split at h1
  · rename_i l el
    split at h1
    · rename_i fs efs
      split at h1
      · rename_i i ei
        have ev := locOf_ok rx el
        obtain ⟨_, dx, vs, eh, rf⟩ := o1.cell l _ (insOf_ok efs)
        obtain ⟨u, eu, ru⟩ := rf.look ei
        refine ⟨_, _, dx, vs, u, ev, eh, hc, hn, eu, ?_⟩
        refine tM_leak o1 (PostS.bind h1) fun d g2 s2 H2 v t2 k2 o2 rv h2 => ?_
        split at h2
        · rename_i j fs2 efs2
          split at h2
          · rename_i hl
            have ce := insOf_ok efs2
            obtain ⟨_, dx2, vs2, eh2, rf2⟩ := o2.cell l _ ce
            have ead : g2.adr l = g1.adr l := by
              cases l with
              | sl k => exact k2 k
              | gl n => exact t2.le.adr n (by rw [o1.ng]; exact gl_cell (insOf_ok efs))
            cases ru
            cases rv
            obtain ⟨o3, t3⟩ := o2.change (o' := .ins c (putD f (.int (i + j)) fs2)) (ho := .ins (He.ga X.K c) dx2 (putF f (.int (i + j)) vs2)) ce ⟨dx2, _, upd_same, rf2.put (.int _)⟩
            rw [ead] at eh2 o3 t3
            exact ⟨i, j, rfl, rfl, dx2, vs2, eh2, by rw [rf2.length]; exact hl, h2 _ g2 _ t3 o3⟩
          · exact h2.elim
        · exact h2.elim
      · exact h1.elim
    · exact h1.elim
  · exact h1.elim
end
end MI
/-! # Fields as targets; methods; making -/
namespace L2
open PySem PySem.Spec PyProof.Rows
section
variable {X : Cx} {o e : Expr} {f : Str} {pos : Pos} {ta : TE}
def gFld (K : PySem.W.Frag) (ta : TE) (f : Str) : TG := fun v σ H Q => ta σ H fun x H1 => ∃ a C dx fs, x = .ref a ∧ H1 a = some (.ins C dx fs) ∧ Cls K C ∧ NoAttr K C f ∧ fs.length < 1000 ∧ Q σ (upd H1 a (.ins C dx (putF f v fs)))
theorem pg_fldT (he : PE X o ta) : PG X (.Attribute o f pos) (gFld X.K ta f) := by
  refine ⟨fun pins s σ H v u Q I r h => ?_⟩
  rw [assign_Attribute]
  refine wpAny_bind (wpAny_holding (thn (he.run pins s σ H _ I h) fun ov s1 ⟨x, H1, I1, rx, a, C, dx, fs, ex, ea, c, n, l, q⟩ => ?_))
  subst ex
  obtain rfl : ov = Value.ref a := rx
  refine wpAny_bind (wpAny_standAt (wpAny_bind (wpAny_holding (setattr_ok I1 ea c n l r fun s2 I2 => ?_))))
  exact wpAny_release ⟨σ, _, I2, q⟩
end
section
variable {X : Cx} {CX : CXT} {k : Nat} {f C : Addr} {fd : FuncData} {ps : List Str} {sp : Sp} {E : St → XK} {x m : Str} {p pos apos : Pos} {e o : Expr} {es : List Expr} {ta : TE} {t : TA}
def tMethE (C : Addr) (m : Str) (sp : Sp) (E : St → XK) (ta : TE) (t : TA) : TE := fun σ H Q => ta σ H fun x H1 => ∃ a dx fs, x = .ref a ∧ H1 a = some (.ins C dx fs) ∧ fs.lookup m = none ∧
  t σ H1 fun vs H2 => sp (x :: vs) H2 Q (E σ)
theorem pe_methE {pl : Sem Bool} (he : PE X o ta) (c : Cls X.K C) (hm : Meth X.K C m f) (F : FnOk X.prog X.w X.K X.mg X.base CX k f fd ps sp) (hr : Room k X.A) (hb : Binds X.K fd ps []) (hx : ∀ σ, PassesAt CX X σ (E σ)) (ha : PA X (e :: es) t)
    (hst : starEach (e :: es) X.env = (false, eval e X.env) :: starEach es X.env := by rfl) (hpl : (backTo pos (starEach es X.env)).any (·.1) = false := by rfl)
    (ht : eval (.Call (.Attribute o m apos) (e :: es) [] pos) X.env = (do
      let ov ← eval o X.env
      standAt apos.atName
      let (f, first) ← holding [ov] (getMethod ov m pl)
      callWith pos f first (backTo pos (starEach (e :: es) X.env)) (backToKw pos (keywordEach [] X.env))) := by rfl) :
    PE X (.Call (.Attribute o m apos) (e :: es) [] pos) (tMethE C m sp E ta t) := by
  refine ⟨fun pins s σ H Q I h => ?_⟩
  refine PySem.W.methodCall_KW (pl := pl) (thn (he.run pins s σ H _ I h) fun u s1 ⟨x, H1, I1, rx, a, dx, fs, ex, ea, l, q⟩ => ?_) ht
  subst ex
  obtain rfl : u = Value.ref a := rx
  refine getmeth_ok I1 ea c hm l ?_
  refine PySem.W.callWith_K (first := [.ref a]) (h₀ := X.base) I.ok.mod.kin hm.kp (thn (ha.run pos pins s1 σ H1 _ I1 q) fun us s2 ⟨vs, H2, I2, r, q2⟩ => ⟨I2.kIn, ?_⟩) hst hpl
  exact run_fnS (us := .ref a :: us) (vs := .ref a :: vs) F hr hb (hx σ) I2 (.cons rfl r) q2
theorem pe_methE0 {pl : Sem Bool} (he : PE X o ta) (c : Cls X.K C) (hm : Meth X.K C m f) (F : FnOk X.prog X.w X.K X.mg X.base CX k f fd ps sp) (hr : Room k X.A) (hb : Binds X.K fd ps []) (hx : ∀ σ, PassesAt CX X σ (E σ))
    (ht : eval (.Call (.Attribute o m apos) [] [] pos) X.env = (do
      let ov ← eval o X.env
      standAt apos.atName
      let (f, first) ← holding [ov] (getMethod ov m pl)
      callWith pos f first (backTo pos (starEach [] X.env)) (backToKw pos (keywordEach [] X.env))) := by rfl) :
    PE X (.Call (.Attribute o m apos) [] [] pos) (tMethE C m sp E ta tNil) := by
  refine ⟨fun pins s σ H Q I h => ?_⟩
  refine PySem.W.methodCall_KW (pl := pl) (thn (he.run pins s σ H _ I h) fun u s1 ⟨x, H1, I1, rx, a, dx, fs, ex, ea, l, q⟩ => ?_) ht
  subst ex
  obtain rfl : u = Value.ref a := rx
  refine getmeth_ok I1 ea c hm l ?_
  obtain ⟨_, q⟩ : True ∧ sp [.ref a] H1 Q (E σ) := ⟨trivial, q⟩
  exact PySem.W.callWith_K0 (first := [.ref a]) I1.kIn hm.kp (run_fnS (us := [.ref a]) (vs := [.ref a]) F hr hb (hx σ) I1 (.cons rfl .nil) q)
def tMakeE (C : Addr) (sp : Sp) (E : St → XK) (t : TA) : TE := fun σ H Q => t σ H fun vs H1 => ∀ x dx, H1 x = none → H1 dx = none → dx ≠ x →
  sp (.ref x :: vs) (upd (upd H1 dx (.own x)) x (.ins C dx [])) (fun v H2 => v = .non ∧ Q (.ref x) H2) (E σ)
theorem pe_makeE (M : Mk X.K C f) (F : FnOk X.prog X.w X.K X.mg X.base CX k f fd ps sp) (hr : Room (k + 1) X.A) (hg : Gl X x) (hm : X.mg x = some (.ref C)) (hb : Binds X.K fd ps []) (hx : ∀ σ, PassesAt CX X σ (E σ))
    (ha : PA X (e :: es) t) (hdb : (x == ("__debug__" : Str)) = false := by decide) (he : starEach (e :: es) X.env = (false, eval e X.env) :: starEach es X.env := by rfl) (hpl : (backTo pos (starEach es X.env)).any (·.1) = false := by rfl) :
    PE X (.Call (.Name x p) (e :: es) [] pos) (tMakeE C sp E t) := by
  refine ⟨fun pins s σ H Q I h => ?_⟩
  refine wpAny_Call_Name_kw (ld_glob I hg hm ?_ hdb)
  refine PySem.W.callWith_K (h₀ := X.base) I.ok.mod.kin M.kp (thn (ha.run pos pins s σ H _ I h) fun us s1 ⟨vs, H1, I1, r, q⟩ => ⟨I1.kIn, ?_⟩) he hpl
  have hq := q (s1.heap.objs.size + 1) s1.heap.objs.size (I1.hok.fresh (Nat.le_succ _)) (I1.hok.fresh (Nat.le_refl _)) (Nat.ne_of_lt (Nat.lt_succ_self _))
  have I2 := Inv.made (C := C) I1
  have r2 : Vals (V.ref (s1.heap.objs.size + 1) :: vs) (Value.ref (s1.heap.objs.size + 1) :: us) := .cons rfl r
  have hl : (Value.ref (s1.heap.objs.size + 1) :: us).length = ps.length := by
    have e := r2.length
    rw [F.len _ _ _ _ hq] at e
    exact e.symm
  have bnd := hb { s1 with heap := (s1.heap.push PySem.W.emptyDict).push (PySem.W.instObj C s1.heap.objs.size) } (Value.ref (s1.heap.objs.size + 1) :: us) I2.kIn (by rw [List.append_nil]; exact hl)
  rw [List.append_nil] at bnd
  show wpAny _ _ (call (.ref C) us) _ _ _
  refine wpAny_call (make_map (f := f) I1.kIn M.makes M.init (beq_iff_eq.mp M.fn) (codeAny_mono (F.run _ X.stack _ _ ⟨Value.ref (s1.heap.objs.size + 1) :: us, []⟩ (Value.ref (s1.heap.objs.size + 1) :: us) _ _ (E σ) (hr.make C us [])
    (I2.env0.make C us []) bnd r2 hq) fun r s' hq' => ?_))
  cases r with
  | error e => exact hx σ pins _ _ e s' I2 hq'
  | ok fl =>
    cases fl with
    | ret u =>
      obtain ⟨v, H', I3, rv, ev, q3⟩ := I2.after hq'
      subst ev
      exact ⟨rv, ⟨V.ref (s1.heap.objs.size + 1), H', I3, rfl, q3⟩⟩
    | next => exact False.elim hq'
    | brk => exact False.elim hq'
    | cont => exact False.elim hq'
end
end L2
namespace MI
open PySem PySem.Spec PyProof.Rows L2
/-! ### targets -/
def MGFk (K : PySem.W.Frag) (gt : TG) (t : D → S → Option S) : Prop :=
  ∀ g s σ H v d s', Ok K g s σ H → Rep K g v d → t d s = some s' → ∀ Q : L2.St → Hp → Prop, (∀ g' σ' H', Step g H g' H' → Ok K g' s' σ' H' → Q σ' H') → gt v σ H Q
def MGFks (K : PySem.W.Frag) (gt : TGs) (t : List D → S → Option S) : Prop :=
  ∀ g s σ H vs ds s', Ok K g s σ H → RepL K g vs ds → t ds s = some s' → ∀ Q : L2.St → Hp → Prop, (∀ g' σ' H', Step g H g' H' → Ok K g' s' σ' H' → Q σ' H') → gt vs σ H Q
structure MGF (X : Cx) (tg : Expr) (gt : TG) (t : D → S → Option S) : Prop where
  pg : PG X tg gt
  ok : MGFk X.K gt t
structure MGFs (X : Cx) (es : List Expr) (n : Nat) (gt : TGs) (t : List D → S → Option S) : Prop where
  pg : PGs X es gt
  ok : MGFks X.K gt t
  len : ∀ ds s s', t ds s = some s' → ds.length = n
/-- x.f where x is the i-th name -/
def tgFld (c f : Str) (i : Nat) : D → S → Option S := fun d s => match s.env[i]? with
  | some (.val (.ref n)) => (match insOf c s (.gl n) with
    | some fs => if fs.length < 1000 then some (setCell s (.gl n) (.ins c (putD f d fs))) else none
    | none => none)
  | _ => none
section
variable {X : Cx} {W : WX} {e : Expr} {es : List Expr} {me : M} {pos : Pos} {gt : TG} {gts : TGs} {is : List Nat} {t : D → S → Option S} {ts : List D → S → Option S} {n : Nat} {c f : Str}
theorem mgf_name {i : Nat} {x : Str} (hN : X.N.Nodup) (hi : X.N[i]? = some x := by rfl) (hx : L2.Loc X.env.scope x := by first | exact Or.inl rfl | exact Or.inr rfl) (hf : X.fn x = true ∨ X.env.scope.names.lookup x = some .local := by first | exact .inl rfl | exact .inr rfl) :
    MGF X (.Name x pos) (gName i) (tgName i) := by
  have h := mg2_name (X := X) (pos := pos) hN hi hx hf
  refine ⟨h.pg, fun g s σ H v d s' ok r e Q hQ => ?_⟩
  obtain ⟨ws, _, o, q⟩ := h.ok g s σ H v d s' ok r e
  exact q Q (hQ g _ H (Step.refl _ _) o)
theorem mgf_fld {i : Nat} {x : Str} {p2 : Pos} (hc : L2.Cls X.K (He.ga X.K c)) (hn : NoAttr X.K (He.ga X.K c) f) (hv : ME X W0 (.Name x p2) (mVar i)) :
    MGF X (.Attribute (.Name x p2) f pos) (gFld X.K (tM X.K W0 (mVar i)) f) (tgFld c f i) := by
  refine ⟨pg_fldT hv, fun g s σ H v d s' ok r e Q hQ => ?_⟩
  unfold tgFld at e
  split at e
  · rename_i k ek
    split at e
    · rename_i fs efs
      split at e
      · rename_i hl
        cases e
        have ce := insOf_ok efs
        refine ⟨g, s, ok, ?_⟩
        have ev : mVar i s = .ok (.d (.ref k)) s := by unfold mVar; rw [ek]
        rw [ev]
        intro g' H' t' k' o' w rw'
        obtain ⟨_, dx, vs, eh, rf⟩ := o'.cell _ _ ce
        obtain ⟨o3, t3⟩ := o'.change (o' := .ins c (putD f d fs)) (ho := .ins (He.ga X.K c) dx (putF f v vs)) ce ⟨dx, _, upd_same, rf.put (r.mono t'.le)⟩
        cases (show Rep X.K g' w (.ref k) from rw')
        exact ⟨_, _, dx, vs, rfl, eh, hc, hn, by rw [rf.length]; exact hl, hQ g' σ _ (t'.trans t3) o3⟩
      · cases e
    · cases e
  · cases e
theorem mgfs_nil : MGFs X [] 0 gNil tgsNil := by
  refine ⟨pgs_nil, fun g s σ H vs ds s' ok r e Q hQ => ?_, fun ds s s' e => ?_⟩
  · cases r with
    | nil =>
      unfold tgsNil at e
      cases e
      exact ⟨rfl, hQ g σ H (Step.refl _ _) ok⟩
    | cons a b => cases e
  · cases ds with
    | nil => rfl
    | cons a b => cases e
theorem mgfs_cons (h1 : MGF X e gt t) (h2 : MGFs X es n gts ts) (hs : (assignEach (e :: es) X.env).map (·.2) = PySem.assign e X.env :: (assignEach es X.env).map (·.2) := by rfl) :
    MGFs X (e :: es) (n + 1) (gCons gt gts) (tgsCons t ts) := by
  refine ⟨pgs_cons h1.pg h2.pg hs, fun g s σ H vs ds s' ok r e Q hQ => ?_, fun ds s s' e => ?_⟩
  · cases r with
    | nil => cases e
    | @cons v vr d dr ra rb =>
      unfold tgsCons at e
      simp only at e
      cases q : t d s with
      | none => rw [q] at e; cases e
      | some s1 =>
        rw [q] at e
        simp only at e
        refine ⟨v, vr, rfl, h1.ok g s σ H v d s1 ok ra q _ fun g' σ' H' t' o' => ?_⟩
        exact h2.ok g' s1 σ' H' vr dr s' o' (rb.mono t'.le) e _ fun g2 σ2 H2 t2 o2 => hQ g2 σ2 H2 (t'.trans t2) o2
  · cases ds with
    | nil => cases e
    | cons d dr =>
      unfold tgsCons at e
      simp only at e
      cases q : t d s with
      | none => rw [q] at e; cases e
      | some s1 =>
        rw [q] at e
        simp only at e
        rw [List.length_cons, h2.len dr s1 s' e]
/-- (t1, .., tn) = e: names and fields -/
def mUnpF (t : List D → S → Option S) (m : M) : S → Res Out := fun s => (mLeak m s).bind fun d s1 => match d with
  | .tup ds => (match t ds s1 with
    | some s2 => .ok .nx s2
    | none => .stuck)
  | _ => .stuck
theorem ms_unpF {kt : Nat} {pt pos : Pos} (hc : X.calm = true) (he : ME X W e me) (h : MGFs X es n gts ts)
    (hn : (assignEach es X.env).length = n := by rfl) (hst : (assignEach es X.env).findIdx? (·.1) = none := by rfl)
    (hs : swapsWithSole [.Tuple es kt pt] e pos.line X.env = pure false := by rfl) (hw : swappedStores [.Tuple es kt pt] e X.env = pure none := by rfl)
    (h1 : (assignEach [.Tuple es kt pt] X.env).map (·.2) = [PySem.assign (.Tuple es kt pt) X.env] := by rfl) :
    MS X W (.Assign [.Tuple es kt pt] e pos) (mUnpF ts me) := by
  refine ps_imp (ps_asg he (pg_tup hc h.pg hn hst) hs hw h1) fun D σ H ⟨g, s, ok, hh⟩ => ?_
  refine tM_leak ok (PostS.bind hh) fun d g1 s1 H1 v t1 k1 o1 rv h1 => ?_
  split at h1
  · rename_i ds
    split at h1
    · rename_i s2 e2
      cases rv with
      | tup hq rl =>
        exact ⟨_, _, rfl, sqT_mono o1.sub hq, rl.length.trans (h.len _ _ _ e2), h.ok g1 s1 σ H1 _ ds s2 o1 rl e2 _ fun g' σ' H' t' o' => h1 σ' g' H' t' o'⟩
    · exact h1.elim
  · exact h1.elim
end
/-! ### methods -/
/-- the method m of the class c keeps fm's promise -/
structure MtM (P : Program) (w : World) (K : PySem.W.Frag) (mg : Str → Option Value) (base : Heap) (k : Nat) (c m : Str) (ps : List Str) (fm : Fm) : Prop where
  ex : ∃ f fd, FnOk P w K mg base (L2.CX P w) k f fd ps (spM K fm) ∧ Meth K (He.ga K c) m f ∧ Binds K fd ps []
/-- the class c is made by an __init__ that keeps fm's promise -/
structure MkM (P : Program) (w : World) (K : PySem.W.Frag) (mg : Str → Option Value) (base : Heap) (k : Nat) (c : Str) (ps : List Str) (fm : Fm) : Prop where
  ex : ∃ f fd, FnOk P w K mg base (L2.CX P w) k f fd ps (spM K fm) ∧ Mk K (He.ga K c) f ∧ Binds K fd ps [] ∧ mg c = some (.ref (He.ga K c))
def mMeth (c m : Str) (fm : Fm) (o : M) (a : S → Res (List D)) : M := fun s => (o s).bind fun r s1 => match r with
  | .d (.ref n) => (match insOf c s1 (.gl n) with
    | some fs => (match fs.lookup m with
      | none => (a s1).bind fun ds s2 => (match fm (.ref n :: ds) s2.gl with
        | .ok d gl => .ok (.d d) { s2 with gl := gl }
        | .exc x p gl => .exc x p { s2 with gl := gl }
        | .stuck => .stuck)
      | some _ => .stuck)
    | none => .stuck)
  | _ => .stuck
def mMake (c : Str) (fm : Fm) (a : S → Res (List D)) : M := fun s => (a s).bind fun ds s1 => match fm (.ref s1.gl.length :: ds) (s1.gl ++ [.ins c []]) with
  | .ok .non gl => .ok (.d (.ref s1.gl.length)) { s1 with gl := gl }
  | .exc x p gl => .exc x p { s1 with gl := gl }
  | _ => .stuck
section
variable {X : Cx} {W : WX} {o e : Expr} {es : List Expr} {mo : M} {ma : S → Res (List D)} {c m : Str} {p pos apos : Pos} {k j : Nat} {ps : List Str} {fm : Fm}
theorem meth_of {σ : L2.St} {H : Hp} {Q : VK} {t : TA} {C : Addr} (hC : C = He.ga X.K c) {g : G} {s : S} (ok : Ok X.K g s σ H) (hta : t = tMA X.K W ma)
    (h : PostE X.K W σ g s H (kE X.K Q) (mMeth c m fm mo ma s)) : tMethE C m (spM X.K fm) (WE W) (tM X.K W mo) t σ H Q := by
  subst hta hC
  refine ⟨g, s, ok, (PostE.bind h).mono fun r g1 s1 H1 t1 k1 o1 h1 v rv => ?_⟩
  split at h1
  · rename_i n
    split at h1
    · rename_i fs efs
      split at h1
      · rename_i el
        have ce := insOf_ok efs
        obtain ⟨_, dx, vs, eh, rf⟩ := o1.cell _ _ ce
        have rv : Rep X.K g1 v (.ref n) := rv
        cases rv with
        | ref _ hn =>
          refine ⟨_, dx, vs, rfl, eh, rf.lookN el, g1, s1, o1, (PostE.bind h1).mono fun ds g2 s2 H2 t2 k2 o2 h2 us ru => ?_⟩
          exact sp_call o2 (.cons ((Rep.ref n hn).mono t2.le) ru) h2 fun _ _ _ h => h
      · exact h1.elim
    · exact h1.elim
  · exact h1.elim
theorem me_meth {pl : Sem Bool} (F : MtM X.prog X.w X.K X.mg X.base k c m ps fm) (hr : Room j X.A) (hj : k ≤ j) (hc : L2.Cls X.K (He.ga X.K c)) (tk : Takes X W) (ho : ME X W o mo) (ha : MA X W (e :: es) ma)
    (hst : starEach (e :: es) X.env = (false, eval e X.env) :: starEach es X.env := by rfl) (hpl : (backTo pos (starEach es X.env)).any (·.1) = false := by rfl)
    (ht : eval (.Call (.Attribute o m apos) (e :: es) [] pos) X.env = (do
      let ov ← eval o X.env
      standAt apos.atName
      let (f, first) ← holding [ov] (getMethod ov m pl)
      callWith pos f first (backTo pos (starEach (e :: es) X.env)) (backToKw pos (keywordEach [] X.env))) := by rfl) :
    ME X W (.Call (.Attribute o m apos) (e :: es) [] pos) (mMeth c m fm mo ma) := by
  obtain ⟨f, fd, F1, hm, hb⟩ := F.ex
  refine pe_imp (pe_methE ho hc hm F1 (hr.mono hj) hb (fun σ => passAt tk σ) ha hst hpl ht) fun σ H Q ⟨g, s, ok, h⟩ => ?_
  exact meth_of rfl ok rfl h
theorem me_meth0 {pl : Sem Bool} (F : MtM X.prog X.w X.K X.mg X.base k c m ps fm) (hr : Room j X.A) (hj : k ≤ j) (hc : L2.Cls X.K (He.ga X.K c)) (tk : Takes X W) (ho : ME X W o mo)
    (ht : eval (.Call (.Attribute o m apos) [] [] pos) X.env = (do
      let ov ← eval o X.env
      standAt apos.atName
      let (f, first) ← holding [ov] (getMethod ov m pl)
      callWith pos f first (backTo pos (starEach [] X.env)) (backToKw pos (keywordEach [] X.env))) := by rfl) :
    ME X W (.Call (.Attribute o m apos) [] [] pos) (mMeth c m fm mo mANil) := by
  obtain ⟨f, fd, F1, hm, hb⟩ := F.ex
  refine pe_imp (pe_methE0 ho hc hm F1 (hr.mono hj) hb (fun σ => passAt tk σ) ht) fun σ H Q ⟨g, s, ok, h⟩ => ?_
  have z := meth_of (t := tMA X.K W mANil) rfl ok rfl h
  unfold tMethE at z ⊢
  refine (show TE from tM X.K W mo) |> fun _ => ?_
  obtain ⟨g0, s0, ok0, q⟩ := z
  refine ⟨g0, s0, ok0, q.mono fun r g1 s1 H1 t1 k1 o1 q1 v rv => ?_⟩
  obtain ⟨a, dx, fs, e1, e2, e3, g2, s2, o2, q2⟩ := q1 v rv
  exact ⟨a, dx, fs, e1, e2, e3, q2 g2 H1 (Step.refl _ _) (SlKeep.refl _) o2 [] .nil⟩
theorem me_make (F : MkM X.prog X.w X.K X.mg X.base k c ps fm) (hr : Room j X.A) (hj : k + 1 ≤ j) (hg : Gl X c) (tk : Takes X W) (ha : MA X W (e :: es) ma)
    (hdb : (c == ("__debug__" : Str)) = false := by decide) (he : starEach (e :: es) X.env = (false, eval e X.env) :: starEach es X.env := by rfl) (hpl : (backTo pos (starEach es X.env)).any (·.1) = false := by rfl) :
    ME X W (.Call (.Name c p) (e :: es) [] pos) (mMake c fm ma) := by
  obtain ⟨f, fd, F1, hmk, hb, hm⟩ := F.ex
  refine pe_imp (pe_makeE hmk F1 (hr.mono hj) hg hm hb (fun σ => passAt tk σ) ha hdb he hpl) fun σ H Q ⟨g, s, ok, h⟩ => ?_
  refine ⟨g, s, ok, (PostE.bind h).mono fun ds g1 s1 H1 t1 k1 o1 h1 vs ru x dx hx hdx hne => ?_⟩
  have oa := o1.grow (o := .own x) hdx
  have hx2 : (upd H1 dx (.own x)) x = none := by rw [upd_ne (Ne.symm hne)]; exact hx
  have ob := oa.grow (o := .ins (He.ga X.K c) dx []) hx2
  have ta := Step.grow (o := .own x) o1 hdx
  have tb := Step.grow (o := .ins (He.ga X.K c) dx []) oa hx2
  have oc := ob.add (a := x) (o := .ins c []) (o1.fnone hx) (o1.pnone hx) (o1.lnone hx) ⟨dx, [], upd_same, .nil⟩
  have sk : SlKeep g1 (g1.add x) := fun j => show (if Loc.sl j = Loc.gl g1.ng then x else g1.adr (.sl j)) = g1.adr (.sl j) from if_neg (by intro z; cases z)
  have tc : Step g1 (upd (upd H1 dx (.own x)) x (.ins (He.ga X.K c) dx [])) (g1.add x) (upd (upd H1 dx (.own x)) x (.ins (He.ga X.K c) dx [])) := ⟨add_le, rfl, fun _ _ => rfl⟩
  have tt := (ta.trans tb).trans tc
  have adx : (g1.add x).adr (.gl s1.gl.length) = x := by rw [← o1.ng]; exact if_pos rfl
  have hng : s1.gl.length < (g1.add x).ng := by rw [← o1.ng]; exact Nat.lt_succ_self _
  have rx : Rep X.K (g1.add x) (.ref x) (.ref s1.gl.length) := by
    have := Rep.ref (K := X.K) (g := g1.add x) s1.gl.length hng
    rwa [adx] at this
  refine sp_call (s := { s1 with gl := s1.gl ++ [.ins c []] }) (W := W) oc (.cons rx (ru.mono tt.le)) ?_ fun _ _ _ h => h
  have h2 := h1.after tt sk (s' := { s1 with gl := s1.gl ++ [.ins c []] })
  cases q : fm (.ref s1.gl.length :: ds) (s1.gl ++ [.ins c []]) with
  | ok d gl =>
    rw [q] at h2
    cases d with
    | non =>
      intro g' H' t' k' o' v rv
      have rv : Rep X.K g' v .non := rv
      cases rv
      refine ⟨rfl, h2 g' H' t' k' o' (.ref x) ?_⟩
      have := (rx.mono t'.le)
      exact this
    | _ => exact h2.elim
  | exc a b gl => rw [q] at h2; exact h2
  | stuck => rw [q] at h2; exact h2.elim
end
end MI
/-! # Methods by name; what the head says of classes -/
namespace MI
open PySem PySem.Spec PyProof.Rows L2 PySem.W
def BindOk2 (x q : Str) (args : Arguments) (body : List Stmt) (scope : Scope) (ps : List Str) : Prop :=
  ∀ (kV doc pm : Value) (an : Option Addr) (cdv ct : Value) (us : List Value), us.length = ps.length → bindArgs (PySem.W.fnOf x q args body scope .none kV doc pm an cdv ct) ⟨us, []⟩ = pure (ps.zip us)
/-- what the head says of a method -/
def DefMt (K : Frag) (c m q : Str) (args : Arguments) (body : List Stmt) (scope : Scope) : Prop :=
  ∃ f fd, FunD K m q args body scope [] [] f fd ∧ Meth K (He.ga K c) m f
/-- what it says of an __init__ -/
def DefMk (K : Frag) (mg : Str → Option Value) (c q : Str) (args : Arguments) (body : List Stmt) (scope : Scope) : Prop :=
  ∃ f fd, FunD K "__init__" q args body scope [] [] f fd ∧ Mk K (He.ga K c) f ∧ mg c = some (.ref (He.ga K c))
section
variable {P : Program} {w : World} {K : Frag} {mg : Str → Option Value} {base : Heap} {c x q : Str} {args : Arguments} {body : List Stmt} {scope : Scope} {N ps : List Str} {k : Nat} {m : S → Res Out}
theorem mtM (F : DefMt K c x q args body scope) (Sc : FnScope N ps scope) (hN : ps.length ≤ N.length) (hB : BindOk2 x q args body scope ps)
    (hbody : ∀ (f : Addr) (cdv : Value) (A : Around) (outer : List Env) (s : Shared) (H : Hp) (E : XK), Room k (A.deeper (envOfC q scope s.heap.objs.size f cdv)) →
      MSs (cxOf (L2.CX P w) P w K mg base N q scope f cdv A outer s H E) (wx E) body m) :
    MtM P w K mg base (k + 1) c x ps (mDef ps.length N.length m) := by
  obtain ⟨f, fd, F1, hm⟩ := F
  exact ⟨f, fd, fn_mirror F1 Sc hN (fun cdv A outer s H E hr => hbody f cdv A outer s H E hr), hm, F1.bindsN hB⟩
theorem mkM (F : DefMk K mg c q args body scope) (Sc : FnScope N ps scope) (hN : ps.length ≤ N.length) (hB : BindOk2 "__init__" q args body scope ps)
    (hbody : ∀ (f : Addr) (cdv : Value) (A : Around) (outer : List Env) (s : Shared) (H : Hp) (E : XK), Room k (A.deeper (envOfC q scope s.heap.objs.size f cdv)) →
      MSs (cxOf (L2.CX P w) P w K mg base N q scope f cdv A outer s H E) (wx E) body m) :
    MkM P w K mg base (k + 1) c ps (mDef ps.length N.length m) := by
  obtain ⟨f, fd, F1, hm, hg⟩ := F
  exact ⟨f, fd, fn_mirror F1 Sc hN (fun cdv A outer s H E hr => hbody f cdv A outer s H E hr), hm, F1.bindsN hB, hg⟩
end
section
variable {d : HdX} {P : Program} {K : Frag} {h : Heap} {mg : Str → Option Value}
theorem HdX.says.cls (c : d.says K) (j : Nat) {x : Str} (e : d.fa[j]? = some (.cls x) := by rfl) : L2.Cls K (He.ga K x) := He.cls_ok (c.fact j e)
theorem HdX.says.noat (c : d.says K) (j : Nat) {x f : Str} (e : d.fa[j]? = some (.noat x f) := by rfl) : NoAttr K (He.ga K x) f := He.noat_ok (c.fact j e)
theorem HdX.says.fun_ (c : d.says K) (i : Nat) {D : He.DefD} (e : d.fn[i]? = some D) : ∃ fd, FunD K D.name D.qual D.params D.body D.scope (D.dvs K) (D.kws K) (He.fAd K D.at_) fd := by
  have c1 := (Bool.and_eq_true_iff.mp (Bool.and_eq_true_iff.mp c.ok).2).1
  have q : d.fn.map (fun f => He.fnW K f.at_) = d.fn.map He.DefD.val := congrArg (fun z : AlX => z.2.1) c
  have q2 : (d.fn.map fun f => He.fnW K f.at_)[i]? = (d.fn.map He.DefD.val)[i]? := by rw [q]
  rw [List.getElem?_map, List.getElem?_map, e] at q2
  exact He.DefD.funD (Option.some.inj q2) (List.all_eq_true.mp c1 _ (List.mem_of_getElem? e))
theorem HdX.says.mt_ (c : d.says K) (i j : Nat) {x m qual : Str} {params : Arguments} {body : List Stmt} {scope : Scope} (e : d.fn[i]? = some ⟨(x, some m), m, qual, params, body, scope, [], []⟩ := by rfl) (e2 : d.fa[j]? = some (.meth x m) := by rfl) :
    DefMt K x m qual params body scope := by
  obtain ⟨fd, F⟩ := c.fun_ i e
  exact ⟨_, fd, F, He.meth_ok (c.fact j e2)⟩
theorem HdX.says.mk_ (c : d.says K) (X : K.In h) (G : h.Ns mainGlobals mg) (i j l : Nat) {x qual : Str} {params : Arguments} {body : List Stmt} {scope : Scope} (e : d.fn[i]? = some ⟨(x, some "__init__"), "__init__", qual, params, body, scope, [], []⟩ := by rfl) (e2 : d.fa[j]? = some (.mkr x) := by rfl) (e3 : d.fa[l]? = some (.glo x) := by rfl) :
    DefMk K mg x qual params body scope := by
  obtain ⟨fd, F⟩ := c.fun_ i e
  exact ⟨_, fd, F, He.mkr_ok (c.fact j e2), He.glo_ok X G (c.fact l e3)⟩
end
end MI
/-! # Dict displays, dict(list(d.items())), is True -/
namespace MI
open PySem PySem.Spec PyProof.Rows L2
/-! ### is True -/
def opIsB (neg : Bool) : S → RV → RV → Res RV := fun s a b => match a, b with
  | .d (.bl x), .d (.bl y) => .ok (.d (.bl (decide (x = y) != neg))) s
  | _, _ => .stuck
section
variable {X : Cx} {W : WX} {a : Expr} {ma : M}
theorem os_isB : OpS X W (fun x y H Q => ∃ a b, x = .bl a ∧ y = .bl b ∧ Q (.bl (decide (a = b))) H) (opIsB false) := by
  intro σ g s H Q x y ra rb ok rx ry nn q
  unfold opIsB at q
  split at q
  · cases (show Rep _ _ _ _ from rx)
    cases (show Rep _ _ _ _ from ry)
    exact ⟨_, _, rfl, rfl, kE_d (by simpa using q) ok (.bl _)⟩
  · exact q.elim
theorem os_notB : OpS X W (fun x y H Q => ∃ a b, x = .bl a ∧ y = .bl b ∧ Q (.bl (!decide (a = b))) H) (opIsB true) := by
  intro σ g s H Q x y ra rb ok rx ry nn q
  unfold opIsB at q
  split at q
  · cases (show Rep _ _ _ _ from rx)
    cases (show Rep _ _ _ _ from ry)
    exact ⟨_, _, rfl, rfl, kE_d (by simpa using q) ok (.bl _)⟩
  · exact q.elim
theorem me_isB {b : Bool} {j p pos} (ha : ME X W a ma) : ME X W (.Compare a [.Is] [.Constant (.bool b) j p] pos) (mBin (opIsB false) ma (mC (.bl b))) := me_cmp op_is_bl os_isB ha me_bl (nomark _)
theorem me_notB {b : Bool} {j p pos} (ha : ME X W a ma) : ME X W (.Compare a [.IsNot] [.Constant (.bool b) j p] pos) (mBin (opIsB true) ma (mC (.bl b))) := me_cmp op_isnot_bl os_notB ha me_bl (nomark _)
end
/-! ### an object that nobody tracks is changed -/
section
variable {K : PySem.W.Frag} {σ : L2.St} {g : G} {s : S} {H : Hp}
theorem Ok.other {a : Addr} {o : HO} (ok : Ok K g s σ H) (n : g.F a = none) (np : ¬ g.P a) (nl : ¬ Live g s a) : Ok K g s σ (upd H a o) := by
  refine ⟨fun b u e => ?_, fun l u e => ?_, ok.inj, ok.env, ok.len, ok.ng, fun b p => ?_⟩
  · rw [upd_ne (fun z => by rw [z, n] at e; cases e)]; exact ok.sub b u e
  · obtain ⟨f, r⟩ := ok.cell l u e
    exact ⟨f, r.mono (GLe.refl _) (upd_ne fun z => nl ⟨l, u, e, z⟩)⟩
  · obtain ⟨h1, h2, h3⟩ := ok.prot b p
    exact ⟨by rw [upd_ne (fun z => np (by rw [z] at p; exact p))]; exact h1, h2, h3⟩
theorem Step.other {a : Addr} {o : HO} (np : ¬ g.P a) : Step g H g (upd H a o) := ⟨GLe.refl _, rfl, fun b p => upd_ne fun z => np (by rw [z] at p; exact p)⟩
/-- more objects, that nobody tracks -/
theorem Ok.more {H' : Hp} (ok : Ok K g s σ H) (h : ∀ b o, H b = some o → H' b = some o) : Ok K g s σ H' := by
  refine ⟨fun b u e => h _ _ (ok.sub b u e), fun l u e => ?_, ok.inj, ok.env, ok.len, ok.ng, fun b p => ?_⟩
  · obtain ⟨f, r⟩ := ok.cell l u e
    obtain ⟨w, hw⟩ := r.some
    exact ⟨f, r.mono (GLe.refl _) (by rw [hw]; exact h _ _ hw)⟩
  · obtain ⟨⟨u, e⟩, f, l⟩ := ok.prot b p
    exact ⟨⟨u, h _ _ e⟩, f, l⟩
theorem Step.more {H' : Hp} (ok : Ok K g s σ H) (h : ∀ b o, H b = some o → H' b = some o) : Step g H g H' := by
  refine ⟨GLe.refl _, rfl, fun b p => ?_⟩
  obtain ⟨⟨u, e⟩, _⟩ := ok.prot b p
  rw [e]
  exact h _ _ e
end
/-! ### displays -/
inductive RepPP (K : PySem.W.Frag) (g : G) : List (V × V) → List (D × D) → Prop
  | nil : RepPP K g [] []
  | cons {v w : V} {x y : D} {vs : List (V × V)} {ds : List (D × D)} : Rep K g v x → Rep K g w y → RepPP K g vs ds → RepPP K g ((v, w) :: vs) ((x, y) :: ds)
theorem RepPP.mono {K : PySem.W.Frag} {g g' : G} (t : GLe g g') {vs : List (V × V)} {ds : List (D × D)} (h : RepPP K g vs ds) : RepPP K g' vs ds := by
  induction h with
  | nil => exact .nil
  | cons a b _ ih => exact .cons (a.mono t) (b.mono t) ih
def kP (K : PySem.W.Frag) (Q : List (V × V) → Hp → Prop) : List (D × D) → G → S → Hp → Prop := fun ds g _ H => ∀ vs, RepPP K g vs ds → Q vs H
def tMP (K : PySem.W.Frag) (W : WX) (m : S → Res (List (D × D))) : L2.St → Hp → (List (V × V) → Hp → Prop) → Prop := fun σ H Q => ∃ g s, Ok K g s σ H ∧ PostE K W σ g s H (kP K Q) (m s)
def mPNil : S → Res (List (D × D)) := fun s => .ok [] s
def mPCons (k v : M) (r : S → Res (List (D × D))) : S → Res (List (D × D)) := fun s => (mLeak k s).bind fun x s1 => (mLeak v s1).bind fun y s2 => (r s2).bind fun ps s3 => .ok ((x, y) :: ps) s3
structure MP (X : Cx) (W : WX) (pos : Pos) (keys : List (Option Expr)) (values : List Expr) (m : S → Res (List (D × D))) : Prop where
  ex : ∃ trs, PPs X pos keys values trs ∧ ∀ σ H Q, tMP X.K W m σ H Q → tPairs trs σ H Q
def keysOf : List (D × D) → Option (List (Key × D))
  | [] => some []
  | (x, y) :: r => match keyOf x, keysOf r with
    | some k, some ks => some ((k, y) :: ks)
    | _, _ => none
theorem keysOf_ok {K : PySem.W.Frag} {g : G} : ∀ {vs : List (V × V)} {ds : List (D × D)} {ks : List (Key × D)}, RepPP K g vs ds → keysOf ds = some ks → ∃ kvs : List (Key × V), vs = kvs.map (fun kv => (kV kv.1, kv.2)) ∧ RepK K g kvs ks
  | _, _, ks, .nil, e => by cases e; exact ⟨[], rfl, .nil⟩
  | _, _, ks, .cons (x := x) (w := w) (ds := ds) a b c, e => by
    unfold keysOf at e
    split at e
    · rename_i k r e1 e2
      cases e
      obtain ⟨kvs, h1, h2⟩ := keysOf_ok c e2
      exact ⟨(k, w) :: kvs, by rw [List.map_cons, ← h1, keyOf_ok a e1], .cons b h2⟩
    · cases e
def mergeD (kvs more : List (Key × D)) : List (Key × D) := more.foldl (fun acc kv => dput acc kv.1 kv.2) kvs
theorem RepK.merge {K : PySem.W.Frag} {g : G} : ∀ {more : List (Key × V)} {moreD : List (Key × D)} {kvs : List (Key × V)} {ds : List (Key × D)}, RepK K g more moreD → RepK K g kvs ds → RepK K g (mergeK kvs more) (mergeD ds moreD)
  | _, _, _, _, .nil, h => h
  | _, _, _, _, .cons (k := k) (vs := vs) (ds := ds) a b, h => RepK.merge (more := vs) (moreD := ds) b (h.put k a)
theorem RepK.len {K : PySem.W.Frag} {g : G} : ∀ {vs : List (Key × V)} {ds : List (Key × D)}, RepK K g vs ds → vs.length = ds.length
  | _, _, .nil => rfl
  | _, _, .cons a b => by rw [List.length_cons, List.length_cons, RepK.len b]
def mDisp (m : S → Res (List (D × D))) : M := fun s => (m s).bind fun ps s1 => match keysOf ps with
  | some ks => if ks.length ≤ 15 then .ok (.new (.dic (mergeD [] ks))) s1 else .stuck
  | none => .stuck
/-- dict(list(d.items())) -/
def mDCopy (m : M) : M := fun s => (mSettle m s).bind fun r s1 => match asDic s1 r with
  | some ks => .ok (.new (.dic (mergeD [] ks))) s1
  | none => .stuck
section
variable {X : Cx} {W : WX} {k v e : Expr} {mk mv me : M} {keys : List (Option Expr)} {values : List Expr} {m : S → Res (List (D × D))} {pos p p2 q apos cpos : Pos}
theorem mp_nil : MP X W pos [] [] mPNil := ⟨[], pps_nil, fun σ H Q ⟨g, s, ok, h⟩ => PostE.done h ok _ .nil⟩
theorem mp_cons (hk : ME X W k mk) (hv : ME X W v mv) (hr : MP X W pos keys values m) : MP X W pos (some k :: keys) (v :: values) (mPCons mk mv m) := by
  obtain ⟨trs, P, hi⟩ := hr.ex
  refine ⟨(tM X.K W mk, tM X.K W mv) :: trs, pps_cons hk hv P, fun σ H Q ⟨g, s, ok, h⟩ => ?_⟩
  refine tM_leak ok (PostE.bind h) fun x g1 s1 H1 vx t1 k1 o1 rx h1 => ?_
  refine tM_leak o1 (PostE.bind h1) fun y g2 s2 H2 vy t2 k2 o2 ry h2 => ?_
  refine hi σ H2 _ ⟨g2, s2, o2, (PostE.bind h2).mono fun ps g3 s3 H3 t3 k3 o3 h3 vs rs => ?_⟩
  exact PostE.done h3 o3 _ (.cons (rx.mono (t2.trans t3).le) (ry.mono t3.le) rs)
theorem me_disp (h : MP X W pos keys values m) (hall : keys.all (·.isSome) = true := by rfl) (hl : keys.length = values.length := by rfl) (h0 : keys ≠ [] := by decide) (h15 : keys.length ≤ 15 := by decide) :
    ME X W (.Dict keys values pos) (mDisp m) := by
  obtain ⟨trs, P, hi⟩ := h.ex
  refine pe_imp (L2.pe_disp P hall hl h0 h15) fun σ H Q ⟨g, s, ok, h⟩ p hp => ?_
  have o1 := ok.grow (o := .dK []) hp
  have h1 := (PostE.bind h).after (s' := s) (Step.grow (o := .dK []) ok hp) (SlKeep.refl _)
  refine hi σ _ _ ⟨g.hold p, s, o1.hold upd_same (ok.fnone hp) (ok.lnone hp), (h1.hold (a := p)).mono fun ps g3 s3 H3 t3 k3 o3 ⟨h3, e3, f3, l3, p3, st3, sk3⟩ vs rs => ?_⟩
  refine ⟨by rw [e3, upd_same], ?_⟩
  split at h3
  · rename_i ks ek
    split at h3
    · rename_i hl
      obtain ⟨kvs, ev, rk⟩ := keysOf_ok (rs.mono (wP_le (P := g.P))) ek
      refine ⟨kvs, ev, by rw [rk.len]; exact hl, ?_⟩
      have np : ¬ (g3.wP g.P).P p := ok.pnone hp
      have nl : ¬ Live (g3.wP g.P) s3 p := l3
      have oo := (o3.unhold (g0 := g) (a := p) p3).other (o := .dK (mergeK [] kvs)) f3 np nl
      have rk' : RepK X.K (g3.wP g.P) (mergeK [] kvs) (mergeD [] ks) := rk.merge .nil
      exact h3 (g3.wP g.P) _ (Step.other np) (SlKeep.refl _) oo _ ⟨p, rfl, f3, np, nl, ⟨_, upd_same, rk'⟩⟩
    · exact h3.elim
  · exact h3.elim
theorem me_dcopy (hc : X.calm = true) (he : ME X W e me) (hg : Gl X "dict") (hm : X.mg "dict" = none) (hg2 : Gl X "list") (hm2 : X.mg "list" = none) (hbase : attributeBase e "items" X.env (eval e X.env) = eval e X.env := by rfl) (hline : (apos.endLine == cpos.line) = true := by rfl)
    (hs : starEach [.Call (.Attribute e "items" apos) [] [] cpos] X.env = (false, eval (.Call (.Attribute e "items" apos) [] [] cpos) X.env) :: starEach [] X.env := by rfl)
    (hs2 : starEach [.Call (.Name "list" p2) [.Call (.Attribute e "items" apos) [] [] cpos] [] q] X.env = (false, eval (.Call (.Name "list" p2) [.Call (.Attribute e "items" apos) [] [] cpos] [] q) X.env) :: starEach [] X.env := by rfl) :
    ME X W (.Call (.Name "dict" p) [.Call (.Name "list" p2) [.Call (.Attribute e "items" apos) [] [] cpos] [] q] [] pos) (mDCopy me) := by
  refine pe_imp (pe_callTy (call_dictP hc) hg hm (by decide +kernel) (pa_cons (LiI.pe_listItems hc he hg2 hm2 (by decide +kernel) hbase hline hs) pa_nil hs2) (he := hs2)) fun σ H Q ⟨g, s, ok, h⟩ => ?_
  refine tM_settle ok (PostE.bind h) fun r g1 s1 H1 v t1 k1 o1 rv nn h1 => ?_
  split at h1
  · rename_i ks e1
    obtain ⟨a, vs, rfl, hq, rk⟩ := asDic_ok o1 rv e1
    refine ⟨a, vs, rfl, hq, fun H2 l ts hmore hl hts hlt el hp => ?_⟩
    refine ⟨l, ts, vs, rfl, .of el, ?_, fun p2 hp2 => ?_⟩
    · clear h1 hlt hts el rk hq e1
      induction hp with
      | nil => exact .nil
      | cons h t ih => exact .cons (.of h) (ih)
    · have o2 := o1.more hmore
      exact h1 g1 _ ((Step.more o1 hmore).trans (Step.grow o2 hp2)) (SlKeep.refl _) (o2.grow hp2) _ ⟨p2, rfl, o2.fnone hp2, o2.pnone hp2, o2.lnone hp2, ⟨_, upd_same, rk.merge .nil⟩⟩
  · exact h1.elim
end
end MI
/-! # Running mirrors: equations for simp -/
namespace MI
open PySem PySem.Spec PyProof.Rows L2

section
variable {s : S} {i j : Int} {x y : D} {e : List Slot} {gl : List MObj} {xs ys : List D}
theorem q_var_val {n : Nat} (h : e[n]? = some (.val x)) : mVar n ⟨e, gl⟩ = .ok (.d x) ⟨e, gl⟩ := by
  unfold mVar; simp only [h]
theorem q_var_own {n : Nat} {o : MObj} (h : e[n]? = some (.own o)) : mVar n ⟨e, gl⟩ = .ok (.at n) ⟨e, gl⟩ := by
  unfold mVar; simp only [h]
theorem q_c : mC x s = .ok (.d x) s := rfl
@[simp] theorem q_settle_d : settle (.d x) = some (.d x) := rfl
@[simp] theorem q_settle_at {n : Nat} : settle (.at n) = some (.at n) := rfl
@[simp] theorem q_settle_lst : settle (.new (.lst xs)) = some (.d (.lst xs)) := rfl
@[simp] theorem q_settle_dic {kvs : List (Key × D)} : settle (.new (.dic kvs)) = some (.d (.dic kvs)) := rfl
@[simp] theorem q_leak_d : leak (.d x) s = some (x, s) := rfl
@[simp] theorem q_leak_lst : leak (.new (.lst xs)) s = some (.lst xs, s) := rfl
@[simp] theorem q_leak_dic {kvs : List (Key × D)} : leak (.new (.dic kvs)) s = some (.dic kvs, s) := rfl
theorem q_leak_at {n : Nat} {o : MObj} {d : D} (h : e[n]? = some (.own o)) (hf : frzO o = some d) : leak (.at n) ⟨e, gl⟩ = some (d, ⟨e.set n (.val d), gl⟩) := by
  unfold leak; simp only [h, hf, Option.map_some]
@[simp] theorem q_frz_lst : frzO (.lst xs) = some (.lst xs) := rfl
@[simp] theorem q_frz_dic {kvs : List (Key × D)} : frzO (.dic kvs) = some (.dic kvs) := rfl
/- operations -/
@[simp] theorem q_add : opAdd s (.d (.int i)) (.d (.int j)) = .ok (.d (.int (i + j))) s := rfl
@[simp] theorem q_sub : opSub s (.d (.int i)) (.d (.int j)) = .ok (.d (.int (i - j))) s := rfl
theorem q_mul (h : cMul i j = true) : opMul s (.d (.int i)) (.d (.int j)) = .ok (.d (.int (i * j))) s := by
  unfold opMul orF opMulI fI asInt; simp only [h, if_true]
theorem q_mulR (h : j.natAbs < 2 ^ 64) : opMul s (.d (.int i)) (.d (.int j)) = .ok (.d (.int (i * j))) s := q_mul (by unfold cMul; simp only [decide_eq_true h, Bool.or_true, Bool.true_or])
theorem q_mulL (h : i.natAbs < 2 ^ 64) : opMul s (.d (.int i)) (.d (.int j)) = .ok (.d (.int (i * j))) s := q_mul (by unfold cMul; simp only [decide_eq_true h, Bool.or_true, Bool.true_or])
theorem q_mod (h : 0 < j) : opMod s (.d (.int i)) (.d (.int j)) = .ok (.d (.int (i % j))) s := by
  unfold opMod fI asInt cMod; simp only [decide_eq_true h, if_true]
theorem q_fdiv (h : 0 < j) (h2 : j < 1073741824) : opFdiv s (.d (.int i)) (.d (.int j)) = .ok (.d (.int (i / j))) s := by
  unfold opFdiv fI asInt cFdiv; simp only [decide_eq_true h, decide_eq_true h2, Bool.true_or, Bool.and_self, if_true]
theorem q_fdivW (h : 0 < j) (h2 : j.natAbs.log2 < 9000) : opFdiv s (.d (.int i)) (.d (.int j)) = .ok (.d (.int (i / j))) s := by
  unfold opFdiv fI asInt cFdiv; simp only [decide_eq_true h, decide_eq_true h2, Bool.or_true, Bool.and_self, if_true]
theorem q_addT (h : xs.length + ys.length ≤ sizeLine) : opAdd s (.d (.tup xs)) (.d (.tup ys)) = .ok (.d (.tup (xs ++ ys))) s := by
  unfold opAdd orF opAddI fI asInt opAddS asStr opAddT asTup; simp only [h, if_true]
theorem q_addL {a b : RV} (ha : asLst s a = some xs) (hb : asLst s b = some ys) (h : xs.length + ys.length ≤ sizeLine) : opAdd s a b = .ok (.new (.lst (xs ++ ys))) s := by
  have i1 : asInt a = none := by cases a with
    | d z => cases z <;> first | rfl | cases ha
    | «at» n => rfl
    | new o => rfl
  have i2 : asStr a = none := by cases a with
    | d z => cases z <;> first | rfl | cases ha
    | «at» n => rfl
    | new o => rfl
  have i3 : asTup a = none := by cases a with
    | d z => cases z <;> first | rfl | cases ha
    | «at» n => rfl
    | new o => rfl
  unfold opAdd orF opAddI fI opAddS opAddT opAddL
  simp only [i1, i2, i3, ha, hb, h, if_true]
theorem q_mulT1 : opMul s (.d (.tup xs)) (.d (.int 1)) = .ok (.d (.tup xs)) s := by
  have h : opMulT s (.d (.tup xs)) (.d (.int 1)) = .ok (.d (.tup xs)) s := by simp [opMulT, asTup, asInt]
  show (match opMulT s (.d (.tup xs)) (.d (.int 1)) with | .stuck => _ | r => r) = _
  rw [h]
theorem q_mulT {k : Int} (h0 : 2 ≤ k) (h1 : k ≤ 1000) (h2 : xs.length ≤ 1000) : opMul s (.d (.tup xs)) (.d (.int k)) = .ok (.d (.tup (List.replicate k.toNat xs).flatten)) s := by
  have h : opMulT s (.d (.tup xs)) (.d (.int k)) = .ok (.d (.tup (List.replicate k.toNat xs).flatten)) s := by
    by_cases hx : xs = []
    · subst hx
      have a1 : -(2 ^ 63) ≤ k := by omega
      have a2 : k < 2 ^ 63 := by omega
      have a3 : (List.replicate k.toNat ([] : List D)).flatten = [] := by simp
      rw [a3]
      simp only [opMulT, asTup, asInt, List.isEmpty_nil, Bool.true_or, if_true, a1, a2, and_self]
    · have e1 : xs.isEmpty = false := by cases xs with
        | nil => exact absurd rfl hx
        | cons _ _ => rfl
      have e2 : (k == 1) = false := by simp; omega
      simp only [opMulT, asTup, asInt, e1, e2, Bool.or_self, Bool.false_eq_true, if_false, h0, h1, h2, and_self, if_true]
  show (match opMulT s (.d (.tup xs)) (.d (.int k)) with | .stuck => _ | r => r) = _
  rw [h]
@[simp] theorem q_lt : opLt s (.d (.int i)) (.d (.int j)) = .ok (.d (.bl (decide (i < j)))) s := rfl
@[simp] theorem q_le : opLe s (.d (.int i)) (.d (.int j)) = .ok (.d (.bl (decide (i ≤ j)))) s := rfl
@[simp] theorem q_gt : opGt s (.d (.int i)) (.d (.int j)) = .ok (.d (.bl (decide (j < i)))) s := rfl
@[simp] theorem q_ge : opGe s (.d (.int i)) (.d (.int j)) = .ok (.d (.bl (decide (j ≤ i)))) s := rfl
theorem q_ixT {d : D} {zs : List D} (h : atI zs i = some d) : opIx s (.d (.tup zs)) (.d (.int i)) = .ok (.d d) s := by
  simp only [opIx, asInt, asTup, h]
theorem q_ixL {a : RV} {d : D} {zs : List D} (ha : asLst s a = some zs) (h : atI zs i = some d) : opIx s a (.d (.int i)) = .ok (.d d) s := by
  have h1 : asTup a = none := by cases a with
    | d z => cases z <;> first | rfl | cases ha
    | «at» n => rfl
    | new o => rfl
  simp only [opIx, asInt, h1, ha, h]
@[simp] theorem q_eqI {n : Bool} : opEq n s (.d (.int i)) (.d (.int j)) = .ok (.d (.bl ((i == j) != n))) s := rfl
theorem q_eq {n b : Bool} (hx : asD s (.d x) = some x) (hy : asD s (.d y) = some y) (h : eqvO 40 x y = some b) : opEq n s (.d x) (.d y) = .ok (.d (.bl (b != n))) s := by
  unfold opEq; simp only [hx, hy, h]
theorem eqAll_int {m : Nat} : ∀ (a b : List Int), eqAll (eqvO m) (a.map D.int) (b.map D.int) = some (decide (a = b))
  | [], [] => by simp [eqAll]
  | [], _ :: _ => by simp [eqAll]
  | _ :: _, [] => by simp [eqAll]
  | x :: xs, y :: ys => by
    have e : eqvO m (.int x) (.int y) = some (x == y) := by cases m <;> rfl
    simp only [List.map_cons, eqAll, e, eqAll_int xs ys, List.cons.injEq]
    by_cases h1 : x = y <;> by_cases h2 : xs = ys <;> simp [h1, h2]
@[simp] theorem q_eqT {n : Bool} {a b : List Int} : opEq n s (.d (.tup (a.map D.int))) (.d (.tup (b.map D.int))) = .ok (.d (.bl (decide (a = b) != n))) s :=
  q_eq rfl rfl (show eqAll (eqvO 39) (a.map D.int) (b.map D.int) = _ from eqAll_int a b)
@[simp] theorem q_lenT : fLen s (.d (.tup xs)) = .ok (.d (.int xs.length)) s := rfl
theorem q_lenL {a : RV} {zs : List D} (h : asD s a = some (.lst zs)) : fLen s a = .ok (.d (.int zs.length)) s := by
  unfold fLen; simp only [h, Option.bind_some, lenD]
@[simp] theorem q_int : fInt s (.d (.int i)) = .ok (.d (.int i)) s := rfl
@[simp] theorem q_neg : fNeg s (.d (.int i)) = .ok (.d (.int (-i))) s := rfl
end
/-! ### the combinators at a state -/
section
variable {s : S} {e : List Slot} {gl : List MObj} {i j k : Nat} {m a b c : M} {t u : S → Res Bool} {la : S → Res (List D)} {lr : S → Res (List RV)} {p q : S → Res Out} {f g : S → RV → RV → Res RV} {h : S → RV → Res RV} {x : D} {lo hi : S → Res (Option Int)}
@[simp] theorem ap_C : mC x s = .ok (.d x) s := rfl
@[simp] theorem ap_Var : mVar i ⟨e, gl⟩ = (match e[i]? with | some (.val x) => .ok (.d x) ⟨e, gl⟩ | some (.own _) => .ok (.at i) ⟨e, gl⟩ | _ => .stuck) := rfl
@[simp] theorem ap_Leak : mLeak m s = (m s).bind fun r s1 => match leak r s1 with | some (d, s2) => .ok d s2 | none => .stuck := rfl
@[simp] theorem ap_Settle : mSettle m s = (m s).bind fun r s1 => match settle r with | some r' => .ok r' s1 | none => .stuck := rfl
@[simp] theorem ap_Bin : mBin f a b s = (mSettle a s).bind fun x s1 => (b s1).bind fun y s2 => f s2 x y := rfl
@[simp] theorem ap_ANil : mANil s = .ok [] s := rfl
@[simp] theorem ap_ACons : mACons a la s = (mLeak a s).bind fun d s1 => (la s1).bind fun ds s2 => .ok (d :: ds) s2 := rfl
@[simp] theorem ap_Tup : mTup la s = (la s).bind fun ds s1 => if ds.length ≤ sizeLine then .ok (.d (.tup ds)) s1 else .stuck := rfl
@[simp] theorem ap_Lst : mLst la s = (la s).bind fun ds s1 => if ds.length ≤ sizeLine then .ok (.new (.lst ds)) s1 else .stuck := rfl
@[simp] theorem ap_Call {fm : Fm} : mCall fm la s = (la s).bind fun ds s1 => match fm ds s1.gl with | .ok d gl => .ok (.d d) { s1 with gl := gl } | .exc c p gl => .exc c p { s1 with gl := gl } | .stuck => .stuck := rfl
@[simp] theorem ap_Nx : mNx s = .ok .nx s := rfl
@[simp] theorem ap_Seq : mSeq p q s = (match p s with | .ok .nx s1 => q s1 | r => r) := rfl
@[simp] theorem ap_Expr : mExpr m s = (m s).bind fun _ s1 => .ok .nx s1 := rfl
@[simp] theorem ap_Ret : mRet m s = (mLeak m s).bind fun d s1 => .ok (.rt d) s1 := rfl
@[simp] theorem ap_RetN : mRetN s = .ok (.rt .non) s := rfl
@[simp] theorem ap_IfS : mIfS t p q s = (t s).bind fun c s1 => if c = true then p s1 else q s1 := rfl
@[simp] theorem ap_Set : mSet i m s = (m s).bind fun r s1 => match MI.assign i r s1 with | some s2 => .ok .nx s2 | none => .stuck := rfl
@[simp] theorem ap_Brk : mBrk s = .ok .bk s := rfl
@[simp] theorem ap_Cont : mCont s = .ok .ct s := rfl
@[simp] theorem ap_Hold : mHold a s = (a s).bind fun r s1 => match r with | .at i => (match leak (.at i) s1 with | some (d, s2) => .ok (.d d) s2 | none => .stuck) | r => .ok r s1 := by
  unfold mHold
  cases a s <;> rfl
@[simp] theorem ap_RNil : mRNil s = .ok [] s := rfl
@[simp] theorem ap_RCons : mRCons a lr s = (mHold a s).bind fun x s1 => (lr s1).bind fun xs s2 => .ok (x :: xs) s2 := rfl
@[simp] theorem ap_ParN {is : List Nat} : mParN is lr s = (lr s).bind fun rs s1 => match assignAll is rs s1 with | some s2 => .ok .nx s2 | none => .stuck := rfl
@[simp] theorem ap_Unp {is : List Nat} : mUnp is m s = (mLeak m s).bind fun d s1 => match d with | .tup ds => (match assignAll is (ds.map .d) s1 with | some s2 => .ok .nx s2 | none => .stuck) | _ => .stuck := by
  unfold mUnp
  cases mLeak m s <;> rfl
@[simp] theorem ap_NoPart : mNoPart s = .ok none s := rfl
@[simp] theorem ap_Part : mPart m s = (m s).bind fun r s1 => match asInt r with | some i => .ok (some i) s1 | none => .stuck := rfl
@[simp] theorem ap_Slice : mSlice a lo hi s = (mSettle a s).bind fun x s1 => (lo s1).bind fun l s2 => (hi s2).bind fun u s3 => opSl l u s3 x := rfl
@[simp] theorem ap_Fn1 : mFn1 h m s = (m s).bind fun r s1 => h s1 r := rfl
@[simp] theorem ap_Fn2 {o : Int → Int → Int} : mFn2 o la s = (la s).bind fun ds s1 => match ds with | [.int i, .int j] => .ok (.d (.int (o i j))) s1 | _ => .stuck := rfl
@[simp] theorem ap_Tru : mTru m s = (m s).bind fun r s1 => match (asD s1 r).bind truthD with | some b => .ok b s1 | none => .stuck := rfl
@[simp] theorem ap_NotT : mNotT t s = (t s).bind fun b s1 => .ok (!b) s1 := rfl
@[simp] theorem ap_AndT : mAndT t u s = (t s).bind fun c s1 => if c = true then u s1 else .ok false s1 := rfl
@[simp] theorem ap_OrT : mOrT t u s = (t s).bind fun c s1 => if c = true then .ok true s1 else u s1 := rfl
@[simp] theorem ap_If : mIf t a b s = (t s).bind fun c s1 => if c = true then a s1 else b s1 := rfl
@[simp] theorem ap_Bl : mBl m s = (m s).bind fun r s1 => match r with | .d (.bl b) => .ok b s1 | _ => .stuck := rfl
@[simp] theorem ap_AndV : mAndV a b s = (a s).bind fun r s1 => match r with | .d (.bl c) => if c = true then b s1 else .ok (.d (.bl false)) s1 | _ => .stuck := rfl
@[simp] theorem ap_OrV : mOrV a b s = (a s).bind fun r s1 => match r with | .d (.bl c) => if c = true then .ok (.d (.bl true)) s1 else b s1 | _ => .stuck := rfl
@[simp] theorem ap_NotV : mNotV a s = (a s).bind fun r s1 => match r with | .d (.bl c) => .ok (.d (.bl (!c))) s1 | _ => .stuck := rfl
@[simp] theorem ap_Chain : mChain f g a b c s = (mSettle a s).bind fun x s1 => (mSettle b s1).bind fun y s2 => (f s2 x y).bind fun z s3 => match z with | .d (.bl k) => if k = true then (c s3).bind fun w s4 => g s4 y w else .ok (.d (.bl false)) s3 | _ => .stuck := rfl
@[simp] theorem ap_Seqi : iSeq m s = (mLeak m s).bind fun d s1 => match d with | .lst xs => .ok xs s1 | .tup xs => .ok xs s1 | .scr xs => .ok xs s1 | _ => .stuck := rfl
theorem rng1_ok {j : Int} (h0 : 0 ≤ j) (h1 : j ≤ 1000000) : rng1 j = some (rangeD 0 j.toNat) := (rng1_eq j).trans (if_pos ⟨by omega, by omega⟩)
theorem rng1_nat {n : Nat} (h1 : n ≤ 1000000) : rng1 (n : Int) = some (rangeD 0 n) := rng1_ok (by omega) (by omega)
theorem rng2_ok {i j : Int} (h0 : -1000000 ≤ i) (h1 : i ≤ 1000000) (h2 : -1000000 ≤ j) (h3 : j ≤ 1000000) : rng2 i j = some (rangeD i (j - i).toNat) := (rng2_eq i j).trans (if_pos ⟨by omega, by omega, by omega, by omega⟩)
def optR {α : Type} (o : Option α) (s : S) : Res α := match o with
  | some l => .ok l s
  | none => .stuck
@[simp] theorem optR_some {α : Type} {l : α} : optR (some l) s = .ok l s := rfl
noncomputable def rngA (ds : List D) : Option (List D) := match ds with
  | [.int j] => rng1 j
  | _ => none
noncomputable def rngB (ds : List D) : Option (List D) := match ds with
  | [.int i, .int j] => rng2 i j
  | _ => none
@[simp] theorem rngA_1 {j : Int} : rngA [.int j] = rng1 j := Eq.trans rfl rfl
@[simp] theorem rngB_2 {i j : Int} : rngB [.int i, .int j] = rng2 i j := Eq.trans rfl rfl
@[simp] theorem ap_Range1 : iRange1 la s = (la s).bind fun ds s1 => optR (rngA ds) s1 := by
  unfold iRange1
  cases la s with
  | ok ds s1 =>
    simp only [Res.bind_ok]
    split
    · rename_i j
      rw [rngA_1]; unfold optR; cases rng1 j <;> rfl
    · rename_i h
      unfold rngA
      split
      · exact absurd rfl (h _)
      · rfl
  | exc c p s1 => rfl
  | stuck => rfl
@[simp] theorem ap_Range2 : iRange2 la s = (la s).bind fun ds s1 => optR (rngB ds) s1 := by
  unfold iRange2
  cases la s with
  | ok ds s1 =>
    simp only [Res.bind_ok]
    split
    · rename_i i j
      rw [rngB_2]; unfold optR; cases rng2 i j <;> rfl
    · rename_i h
      unfold rngB
      split
      · exact absurd rfl (h _ _)
      · rfl
  | exc c p s1 => rfl
  | stuck => rfl
@[simp] theorem ap_For {it : S → Res (List D)} {tg : D → S → Option S} : mFor it tg p s = (it s).bind fun ds s1 => forGo tg p ds s1 := rfl
@[simp] theorem ap_Yes : mYes s = .ok true s := rfl
@[simp] theorem ap_Alloc : mAlloc m s = (m s).bind fun r s1 => match r with | .new o => .ok (.d (.ref s1.gl.length)) { s1 with gl := s1.gl ++ [o] } | _ => .stuck := rfl
@[simp] theorem ap_Comp {vs : List Nat} {it : S → Res (List D)} {tg : D → S → Option S} : mComp vs it tg t m s = (it s).bind fun ds s1 => if noOwn s1.env vs = true then (match compGo vs tg t (mLeak m) ds [] (wipeS s1 vs) with
  | some (acc, s2) => .ok (.new (.lst acc)) { s2 with env := restE s1.env s2.env vs }
  | none => .stuck) else .stuck := rfl
@[simp] theorem ap_Raise {x f : Str} : mRaise x f m s = (mLeak m s).bind fun d s1 => match d with | .int i => if i.natAbs ≤ 1000000 then .exc x (.tup [.str f, .int i]) s1 else .stuck | _ => .stuck := rfl
@[simp] theorem ap_tgName : tgName i x s = MI.assign i (.d x) s := rfl
theorem as_d {x : D} (h : i < e.length) : MI.assign i (.d x) ⟨e, gl⟩ = some ⟨e.set i (.val x), gl⟩ := if_pos h
theorem as_new {o : MObj} (h : i < e.length) : MI.assign i (.new o) ⟨e, gl⟩ = some ⟨e.set i (.own o), gl⟩ := if_pos h
@[simp] theorem asA_nil : assignAll [] [] s = some s := rfl
@[simp] theorem asA_cons {r : RV} {is : List Nat} {rs : List RV} : assignAll (i :: is) (r :: rs) s = (match MI.assign i r s with | some s1 => assignAll is rs s1 | none => none) := rfl
@[simp] theorem ap_SetIx {v o ix : M} : mSetIx v o ix s = (mLeak v s).bind fun d s1 => (o s1).bind fun r s2 => match locOf r with
  | some l => (match cellOf s2 l with
    | some _ => (mLeak ix s2).bind fun k s3 => (match cellOf s3 l, k with
      | some (.lst xs), .int k => (match ixN xs.length k with
        | some j => .ok .nx (setCell s3 l (.lst (xs.set j d)))
        | none => .stuck)
      | _, _ => .stuck)
    | _ => .stuck)
  | none => .stuck := rfl
@[simp] theorem ap_Lm1 {fn : List D → D → Option (D × List D)} : mLm1 fn a b s = (a s).bind fun r s1 => match locOf r with
  | some l => (match cellOf s1 l with
    | some (.lst _) => (mLeak b s1).bind fun d s2 => (match cellOf s2 l with
      | some (.lst xs) => (match fn xs d with
        | some (x, ys) => .ok (.d x) (setCell s2 l (.lst ys))
        | none => .stuck)
      | _ => .stuck)
    | _ => .stuck)
  | none => .stuck := rfl
@[simp] theorem cell_gl {n : Nat} : cellOf ⟨e, gl⟩ (.gl n) = gl[n]? := rfl
@[simp] theorem cell_slot {n : Nat} : cellOf ⟨e, gl⟩ (.sl n) = (match e[n]? with | some (.own o) => some o | _ => none) := rfl
@[simp] theorem setCell_gl {n : Nat} {o : MObj} : setCell ⟨e, gl⟩ (.gl n) o = ⟨e, gl.set n o⟩ := rfl
@[simp] theorem setCell_sl {n : Nat} {o : MObj} : setCell ⟨e, gl⟩ (.sl n) o = ⟨e.set n (.own o), gl⟩ := rfl
end
@[simp] theorem forGo_nil {t : D → S → Option S} {p : S → Res Out} {s : S} : forGo t p [] s = .ok .nx s := rfl
theorem forGo_cons {t : D → S → Option S} {p : S → Res Out} {s : S} {d : D} {ds : List D} : forGo t p (d :: ds) s = (match t d s with
    | none => .stuck
    | some s1 => match p s1 with
      | .ok .nx s2 => forGo t p ds s2
      | .ok .ct s2 => forGo t p ds s2
      | .ok .bk s2 => .ok .nx s2
      | r => r) := rfl
theorem mDef_ok {n N : Nat} {body : S → Res Out} {ds : List D} {gl gl' : List MObj} {d : D} {e : List Slot} (hl : ds.length = n) (h : body ⟨ds.map Slot.val ++ List.replicate (N - n) Slot.none, gl⟩ = .ok (.rt d) ⟨e, gl'⟩) : mDef n N body ds gl = .ok d gl' := by
  unfold mDef
  rw [if_pos hl, h]
theorem mDef_exc {n N : Nat} {body : S → Res Out} {ds : List D} {gl gl' : List MObj} {c : Str} {p : D} {e : List Slot} (hl : ds.length = n) (h : body ⟨ds.map Slot.val ++ List.replicate (N - n) Slot.none, gl⟩ = .exc c p ⟨e, gl'⟩) : mDef n N body ds gl = .exc c p gl' := by
  unfold mDef
  rw [if_pos hl, h]
/-! ### lists of ints -/
abbrev IL (l : List Int) : List D := l.map D.int
theorem szN (n : Nat) (h : n ≤ 1000000) : n ≤ sizeLine := by rw [sizeLine_eq]; omega
@[simp] theorem sz0 : 0 ≤ sizeLine := Nat.zero_le _
@[simp] theorem sz1 : 1 ≤ sizeLine := szN _ (by omega)
@[simp] theorem sz1' : 1 < sizeLine := by rw [sizeLine_eq]; omega
@[simp] theorem sz2 : 2 ≤ sizeLine := szN _ (by omega)
@[simp] theorem sz3 : 3 ≤ sizeLine := szN _ (by omega)
@[simp] theorem sz4 : 4 ≤ sizeLine := szN _ (by omega)
@[simp] theorem sz5 : 5 ≤ sizeLine := szN _ (by omega)
@[simp] theorem sz6 : 6 ≤ sizeLine := szN _ (by omega)
section
variable {s : S} {a b : List Int} {i j : Int}
theorem q_addI (h : a.length + b.length ≤ 1000000) : opAdd s (.d (.tup (IL a))) (.d (.tup (IL b))) = .ok (.d (.tup (IL (a ++ b)))) s := by
  rw [q_addT (szN _ (by simpa using h))]
  simp
theorem q_addIL (h : a.length + b.length ≤ 1000000) {x y : RV} (hx : asLst s x = some (IL a)) (hy : asLst s y = some (IL b)) : opAdd s x y = .ok (.new (.lst (IL (a ++ b)))) s := by
  rw [q_addL hx hy (szN _ (by simpa using h))]
  simp
theorem q_shl (h : 0 ≤ j) (h1 : j ≤ 1000000) (h2 : i.natAbs < 2 ^ 64) : opShl s (.d (.int i)) (.d (.int j)) = .ok (.d (.int (i * 2 ^ j.toNat))) s := by
  have c : cPow i j = true := by
    unfold cPow
    rw [decide_eq_true h, decide_eq_true h1, decide_eq_true h2]
    rfl
  simp only [opShl, fI, asInt, c, if_true]
theorem atI_il {d : Int} (h0 : 0 ≤ i) (h : a[i.toNat]? = some d) : atI (IL a) i = some (.int d) := by
  have hl : i.toNat < a.length := (List.getElem?_eq_some_iff.mp h).1
  unfold atI ixN
  rw [if_pos h0, if_pos (by rw [List.length_map]; omega)]
  show (IL a)[i.toNat]? = _
  rw [List.getElem?_map, h]
  rfl
theorem cut_il {lo hi : Option Int} : cut (IL a) lo hi = IL (cut a lo hi) := by
  unfold cut
  rw [List.length_map, ← List.map_drop, ← List.map_take]
theorem q_slT {lo hi : Option Int} : opSl lo hi s (.d (.tup (IL a))) = .ok (.d (.tup (IL (cut a lo hi)))) s := by
  unfold opSl
  simp only [asTup, cut_il]
theorem cut_lo {α : Type} {xs : List α} {k : Nat} (h : k ≤ xs.length) : cut xs (some (k : Int)) none = xs.drop k := by
  unfold cut HT.sIx
  have e : ¬ ((k : Int) < 0) := by omega
  simp only [e, if_false, Int.toNat_natCast, Nat.min_eq_left h]
  rw [List.take_of_length_le]
  simp
theorem cut_hi {α : Type} {xs : List α} {k : Nat} (h : k ≤ xs.length) : cut xs none (some (k : Int)) = xs.take k := by
  unfold cut HT.sIx
  have e : ¬ ((k : Int) < 0) := by omega
  simp only [e, if_false, Int.toNat_natCast, Nat.min_eq_left h, List.drop_zero, Nat.sub_zero]
theorem cut_lohi {α : Type} {xs : List α} {k m : Nat} (h : k ≤ m) (h2 : m ≤ xs.length) : cut xs (some (k : Int)) (some (m : Int)) = (xs.drop k).take (m - k) := by
  unfold cut HT.sIx
  have e : ¬ ((k : Int) < 0) := by omega
  have e2 : ¬ ((m : Int) < 0) := by omega
  simp only [e, e2, if_false, Int.toNat_natCast, Nat.min_eq_left (Nat.le_trans h h2), Nat.min_eq_left h2]
end
@[simp] theorem sz0' : 0 < sizeLine := by rw [sizeLine_eq]; omega
@[simp] theorem sz2' : 2 < sizeLine := by rw [sizeLine_eq]; omega
@[simp] theorem sz3' : 3 < sizeLine := by rw [sizeLine_eq]; omega
@[simp] theorem sz4' : 4 < sizeLine := by rw [sizeLine_eq]; omega
@[simp] theorem sz5' : 5 < sizeLine := by rw [sizeLine_eq]; omega
/-! ### comprehensions over one name -/
inductive All2 {α β : Type} (R : α → β → Prop) : List α → List β → Prop
  | nil : All2 R [] []
  | cons {a : α} {b : β} {as : List α} {bs : List β} : R a b → All2 R as bs → All2 R (a :: as) (b :: bs)
section
variable {v : Nat} {e : M} {env : List Slot} {gl : List MObj}
theorem restE_one (hv : v < env.length) : restE env (env.set v .none) [v] = env := by
  show ((env.set v Slot.none).set v ((env[v]?).getD .none)) = env
  rw [List.set_set, List.getElem?_eq_getElem hv]
  simp
theorem set_none_set {x : Slot} : (env.set v x).set v .none = env.set v .none := List.set_set ..
theorem compGo_inv {P : List MObj → Prop} {R : D → D → Prop} (hv : v < env.length) : ∀ (ds acc : List D) (gl : List MObj), P gl → acc.length + ds.length ≤ sizeLine →
    (∀ d ∈ ds, ∀ gl, P gl → ∃ y gl', mLeak e ⟨env.set v (.val d), gl⟩ = .ok y ⟨env.set v (.val d), gl'⟩ ∧ P gl' ∧ R d y) →
    ∃ ys gl', compGo [v] (tgName v) mYes (mLeak e) ds acc ⟨env.set v .none, gl⟩ = some (acc ++ ys, ⟨env.set v .none, gl'⟩) ∧ P gl' ∧ All2 R ds ys
  | [], acc, gl, hP, _, _ => ⟨[], gl, by simp [compGo], hP, .nil⟩
  | d :: ds, acc, gl, hP, hl, he => by
    obtain ⟨y, gl1, e1, P1, R1⟩ := he d List.mem_cons_self gl hP
    have hl' : acc.length < sizeLine := by simp only [List.length_cons] at hl; omega
    obtain ⟨ys, gl2, e2, P2, R2⟩ := compGo_inv hv ds (acc ++ [y]) gl1 P1 (by simp only [List.length_append, List.length_cons, List.length_nil] at hl ⊢; omega) fun d' m => he d' (List.mem_cons_of_mem _ m)
    refine ⟨y :: ys, gl2, ?_, P2, .cons R1 R2⟩
    have ta : tgName v d ⟨env.set v .none, gl⟩ = some ⟨env.set v (.val d), gl⟩ := by
      rw [ap_tgName, as_d (by simpa using hv), List.set_set]
    unfold compGo
    rw [ta]
    simp only [ap_Yes, if_true, e1, hl']
    show compGo [v] (tgName v) mYes (mLeak e) ds (acc ++ [y]) ⟨(env.set v (.val d)).set v .none, gl1⟩ = _
    rw [List.set_set, e2]
    simp
theorem comp_inv {P : List MObj → Prop} {R : D → D → Prop} {it : S → Res (List D)} {s0 : S} {ds : List D} (hi : it s0 = .ok ds ⟨env, gl⟩) (hv : v < env.length) (ho : noOwn env [v] = true) (hP : P gl) (hl : ds.length ≤ sizeLine)
    (he : ∀ d ∈ ds, ∀ gl, P gl → ∃ y gl', mLeak e ⟨env.set v (.val d), gl⟩ = .ok y ⟨env.set v (.val d), gl'⟩ ∧ P gl' ∧ R d y) :
    ∃ ys gl', mComp [v] it (tgName v) mYes e s0 = .ok (.new (.lst ys)) ⟨env, gl'⟩ ∧ P gl' ∧ All2 R ds ys := by
  obtain ⟨ys, gl', h1, h2, h3⟩ := compGo_inv hv ds [] gl hP (by simpa using hl) he
  refine ⟨ys, gl', ?_, h2, h3⟩
  rw [ap_Comp, hi, Res.bind_ok, if_pos ho]
  show (match compGo [v] (tgName v) mYes (mLeak e) ds [] ⟨env.set v .none, gl⟩ with | some (acc, s2) => Res.ok (RV.new (.lst acc)) ⟨restE env s2.env [v], s2.gl⟩ | none => .stuck) = _
  rw [h1]
  show Res.ok (RV.new (.lst ([] ++ ys))) (⟨restE env (env.set v .none) [v], gl'⟩ : S) = _
  rw [restE_one hv, List.nil_append]
theorem forall2_map {g : D → D} : ∀ {ds ys : List D}, All2 (fun d y => y = g d) ds ys → ys = ds.map g
  | _, _, .nil => rfl
  | _, _, .cons h t => by rw [h, forall2_map t]; rfl
theorem comp_map {it : S → Res (List D)} {s0 : S} {ds : List D} {g : D → D} (hi : it s0 = .ok ds ⟨env, gl⟩) (hv : v < env.length) (ho : noOwn env [v] = true) (hl : ds.length ≤ sizeLine)
    (he : ∀ d ∈ ds, mLeak e ⟨env.set v (.val d), gl⟩ = .ok (g d) ⟨env.set v (.val d), gl⟩) :
    mComp [v] it (tgName v) mYes e s0 = .ok (.new (.lst (ds.map g))) ⟨env, gl⟩ := by
  obtain ⟨ys, gl', h1, h2, h3⟩ := comp_inv (P := fun z => z = gl) (R := fun d y => y = g d) hi hv ho rfl hl fun d m z hz => ⟨g d, gl, by rw [hz]; exact he d m, rfl, rfl⟩
  rw [h1, h2, forall2_map h3]
theorem rangeD_map (lo : Int) : ∀ n : Nat, rangeD lo n = (List.range n).map fun (k : Nat) => D.int (lo + (k : Int))
  | 0 => rfl
  | n + 1 => by
    rw [rangeD, rangeD_map (lo + 1) n, List.range_succ_eq_map, List.map_cons, List.map_map]
    have e0 : lo + ((0 : Nat) : Int) = lo := by omega
    rw [e0]
    congr 1
    refine List.map_congr_left fun k _ => ?_
    show D.int (lo + 1 + (k : Int)) = D.int (lo + ((k + 1 : Nat) : Int))
    congr 1
    omega
theorem rangeD_length (lo : Int) : ∀ n : Nat, (rangeD lo n).length = n
  | 0 => rfl
  | n + 1 => by rw [rangeD, List.length_cons, rangeD_length]
end
section
variable {s : S} {xs : List D} {n : Nat} {e : List Slot} {gl : List MObj}
@[simp] theorem q_listT : fList s (.d (.tup xs)) = .ok (.new (.lst xs)) s := rfl
@[simp] theorem q_listL : fList s (.d (.lst xs)) = .ok (.new (.lst xs)) s := rfl
@[simp] theorem q_listN : fList s (.new (.lst xs)) = .ok (.new (.lst xs)) s := rfl
@[simp] theorem q_tupT : fTuple s (.d (.tup xs)) = .ok (.d (.tup xs)) s := rfl
@[simp] theorem q_tupL : fTuple s (.d (.lst xs)) = .ok (.d (.tup xs)) s := rfl
@[simp] theorem q_tupN : fTuple s (.new (.lst xs)) = .ok (.d (.tup xs)) s := rfl
@[simp] theorem q_lenD : fLen s (.d (.lst xs)) = .ok (.d (.int xs.length)) s := rfl
@[simp] theorem q_lenN : fLen s (.new (.lst xs)) = .ok (.d (.int xs.length)) s := rfl
end
/-! ### loops by an invariant -/
theorem for_inv {t : D → S → Option S} {p : S → Res Out} {Inv : S → Prop} : ∀ (ds : List D) (s : S), Inv s → (∀ d ∈ ds, ∀ s, Inv s → ∃ s1 s2, t d s = some s1 ∧ p s1 = .ok .nx s2 ∧ Inv s2) → ∃ s', forGo t p ds s = .ok .nx s' ∧ Inv s'
  | [], s, h, _ => ⟨s, rfl, h⟩
  | d :: ds, s, h, hp => by
    obtain ⟨s1, s2, h1, h2, h3⟩ := hp d List.mem_cons_self s h
    obtain ⟨s', h4, h5⟩ := for_inv ds s2 h3 fun d' m => hp d' (List.mem_cons_of_mem _ m)
    exact ⟨s', by rw [forGo_cons, h1]; simp only [h2]; exact h4, h5⟩
theorem seq_nx {a b : S → Res Out} {s s1 : S} (h : a s = .ok .nx s1) : mSeq a b s = b s1 := by rw [ap_Seq, h]
theorem mem_rangeD {lo : Int} {n : Nat} {d : D} (h : d ∈ rangeD lo n) : ∃ k : Nat, k < n ∧ d = .int (lo + k) := by
  rw [rangeD_map] at h
  obtain ⟨k, hk, rfl⟩ := List.mem_map.mp h
  exact ⟨k, List.mem_range.mp hk, rfl⟩
theorem set_parts {α : Type} (l : List α) (k : Nat) (b : α) (h : k < l.length) : l.take k ++ [b] ++ l.drop (k + 1) = l.set k b := by
  rw [List.set_eq_take_append_cons_drop, if_pos h]
  simp
@[simp] theorem ap_TryX {x f : Str} {i j : Nat} {b : S → Res Out} {s : S} : mTryX x i j f b s = (match b s with
  | .exc c p s1 => (match tbOne x c with
    | some true => (match p with
      | .tup [.str f', q] => if f' = f ∧ i ≠ j ∧ i < s1.env.length then (match MI.assign j (.d q) { s1 with env := s1.env.set i .none } with
        | some s2 => .ok .nx s2
        | none => .stuck) else .stuck
      | _ => .stuck)
    | some false => .exc c p s1
    | none => .stuck)
  | r => r) := rfl
@[simp] theorem tb_same {x : Str} : tbOne x x = some true := if_pos rfl
end MI
/-! # More equations to run mirrors -/
namespace MI
open PySem L2
section
variable {e : List Slot} {gl : List MObj} {s : S} {o a m : M} {i : Nat}
@[simp] theorem ap_Lm0 {f : List D → Option (D × List D)} : mLm0 f o s = (o s).bind fun r s1 => match locOf r with
  | some l => (match cellOf s1 l with
    | some (.lst xs) => (match f xs with
      | some (x, ys) => .ok (.d x) (setCell s1 l (.lst ys))
      | none => .stuck)
    | _ => .stuck)
  | none => .stuck := rfl
@[simp] theorem ap_Sm1 {f : Str → D → Option D} : mSm1 f o a s = (mLeak o s).bind fun d s1 => match d with
  | .str x => (mLeak a s1).bind fun y s2 => (match f x y with
    | some z => .ok (.d z) s2
    | none => .stuck)
  | _ => .stuck := rfl
@[simp] theorem ap_Aug {f : Int → Int → Int} : mAug i f m s = (match s.env[i]? with
  | some (.val (.int a)) => (m s).bind fun r s1 => (match asInt r with
    | some b => (match MI.assign i (.d (.int (f a b))) s1 with
      | some s2 => .ok .nx s2
      | none => .stuck)
    | none => .stuck)
  | _ => .stuck) := rfl
@[simp] theorem ap_StrM : iStrM m s = (mLeak m s).bind fun d s1 => match d with
  | .str x => .ok (signs x) s1
  | _ => .stuck := rfl
end
@[simp] theorem lk_at {n : Nat} {e : List Slot} {gl : List MObj} : leak (.at n) ⟨e, gl⟩ = (match e[n]? with | some (.own o) => (frzO o).map fun d => (d, (⟨e.set n (.val d), gl⟩ : S)) | _ => none) := rfl
@[simp] theorem fPop_snoc (xs : List D) (x : D) : fPop (xs ++ [x]) = some (x, xs) := by
  unfold fPop
  rw [List.length_append, List.length_singleton, Nat.add_sub_cancel, List.getElem?_append_right (Nat.le_refl _)]
  simp
theorem fApp_ok (xs : List D) (x : D) (h : xs.length < 1000000) : fAppend xs x = some (.non, xs ++ [x]) := by
  unfold fAppend
  rw [if_pos (by rw [sizeLine_eq]; omega)]
theorem fExt_lst (xs ys : List D) (h : xs.length + ys.length ≤ 1000000) : fExtendA xs (.lst ys) = some (.non, xs ++ ys) := by
  unfold fExtendA
  simp only
  rw [if_pos (szN _ h)]
theorem fExt_tup (xs ys : List D) (h : xs.length + ys.length ≤ 1000000) : fExtendA xs (.tup ys) = some (.non, xs ++ ys) := by
  unfold fExtendA
  simp only
  rw [if_pos (szN _ h)]
/-- a while by its steps -/
theorem wh_stop {t : S → Res Bool} {l : S → Res Out} {s s' : S} (h : t s = .ok false s') : ∃ N, whileGo t l N s = .ok .nx s' := by
  refine ⟨1, ?_⟩
  unfold whileGo
  rw [h]
  simp
theorem wh_step {t : S → Res Bool} {l : S → Res Out} {s s1 s2 : S} {r : Res Out} (h : t s = .ok true s1) (h2 : l s1 = .ok .nx s2) (h3 : ∃ N, whileGo t l N s2 = r) : ∃ N, whileGo t l N s = r := by
  obtain ⟨N, h3⟩ := h3
  refine ⟨N + 1, ?_⟩
  unfold whileGo
  rw [h]
  simp only [Res.bind_ok, if_true, h2]
  exact h3
theorem wh_exc {t : S → Res Bool} {l : S → Res Out} {s s1 s2 : S} {c : Str} {p : D} (h : t s = .ok true s1) (h2 : l s1 = .exc c p s2) : ∃ N, whileGo t l N s = .exc c p s2 := by
  refine ⟨1, ?_⟩
  unfold whileGo
  rw [h]
  simp only [Res.bind_ok, if_true, h2]
theorem wh_done {t : S → Res Bool} {l : S → Res Out} {s : S} {r : Res Out} (h : ∃ N, whileGo t l N s = r) (hr : r ≠ .stuck) : mWhile t l s = r := by
  obtain ⟨N, h⟩ := h
  exact mWhile_eq h hr
end MI
namespace MI
open PySem L2
/-- a comprehension over l told by a, of the values b -/
theorem compGo_map {ι : Type} {v : Nat} {e : M} {env : List Slot} {gl : List MObj} (hv : v < env.length) (a b : ι → D) : ∀ (l : List ι) (acc : List D), acc.length + l.length ≤ sizeLine →
    (∀ i ∈ l, mLeak e ⟨env.set v (.val (a i)), gl⟩ = .ok (b i) ⟨env.set v (.val (a i)), gl⟩) →
    compGo [v] (tgName v) mYes (mLeak e) (l.map a) acc ⟨env.set v .none, gl⟩ = some (acc ++ l.map b, ⟨env.set v .none, gl⟩)
  | [], acc, _, _ => by simp [compGo]
  | i :: l, acc, hl, he => by
    have e1 := he i List.mem_cons_self
    have hl' : acc.length < sizeLine := by simp only [List.length_cons] at hl; omega
    have e2 := compGo_map hv a b l (acc ++ [b i]) (by simp only [List.length_append, List.length_cons, List.length_nil] at hl ⊢; omega) fun j m => he j (List.mem_cons_of_mem _ m)
    have ta : tgName v (a i) ⟨env.set v .none, gl⟩ = some ⟨env.set v (.val (a i)), gl⟩ := by
      rw [ap_tgName, as_d (by simpa using hv), List.set_set]
    rw [List.map_cons]
    unfold compGo
    rw [ta]
    simp only [ap_Yes, if_true, e1, hl']
    show compGo [v] (tgName v) mYes (mLeak e) (l.map a) (acc ++ [b i]) ⟨(env.set v (.val (a i))).set v .none, gl⟩ = _
    rw [List.set_set, e2]
    simp
theorem comp_mapI {ι : Type} {v : Nat} {e : M} {env : List Slot} {gl : List MObj} {it : S → Res (List D)} {s0 : S} (l : List ι) (a b : ι → D) (hi : it s0 = .ok (l.map a) ⟨env, gl⟩) (hv : v < env.length) (ho : noOwn env [v] = true) (hl : l.length ≤ 1000000)
    (he : ∀ i ∈ l, mLeak e ⟨env.set v (.val (a i)), gl⟩ = .ok (b i) ⟨env.set v (.val (a i)), gl⟩) :
    mComp [v] it (tgName v) mYes e s0 = .ok (.new (.lst (l.map b))) ⟨env, gl⟩ := by
  have h1 := compGo_map hv a b l [] (by rw [List.length_nil, Nat.zero_add]; exact szN _ hl) he
  rw [ap_Comp, hi, Res.bind_ok, if_pos ho]
  show (match compGo [v] (tgName v) mYes (mLeak e) (l.map a) [] ⟨env.set v .none, gl⟩ with | some (acc, s2) => Res.ok (RV.new (.lst acc)) ⟨restE env s2.env [v], s2.gl⟩ | none => .stuck) = _
  rw [h1]
  show Res.ok (RV.new (.lst ([] ++ l.map b))) (⟨restE env (env.set v .none) [v], gl⟩ : S) = _
  rw [restE_one hv, List.nil_append]
end MI
namespace MI
open PySem L2
section
variable {e : List Slot} {gl : List MObj} {s : S} {o a d k v m : M}
@[simp] theorem ap_UnpT {t : D → S → Option S} : mUnpT t m s = (mLeak m s).bind fun d s1 => match t d s1 with
  | some s2 => .ok .nx s2
  | none => .stuck := rfl
@[simp] theorem ap_DNew : mDNew s = .ok (.new (.dic [])) s := rfl
@[simp] theorem ap_DGet : mDGet d k s = (mSettle d s).bind fun r s1 => (mLeak k s1).bind fun y s2 => match asDic s2 r, keyOf y with
  | some kvs, some k => (match dval kvs k with
    | some x => .ok (.d x) s2
    | none => .stuck)
  | _, _ => .stuck := rfl
@[simp] theorem ap_DPut : mDPut v o k s = (mLeak v s).bind fun d s1 => (o s1).bind fun r s2 => match locOf r with
  | some l => (match cellOf s2 l with
    | some _ => (mLeak k s2).bind fun y s3 => (match cellOf s3 l, keyOf y with
      | some (.dic kvs), some k => if kvs.length < sizeLine then .ok .nx (setCell s3 l (.dic (dput kvs k d))) else .stuck
      | _, _ => .stuck)
    | _ => .stuck)
  | none => .stuck := rfl
@[simp] theorem ap_DGet2 {x : M} : mDGet2 d k x s = (mSettle d s).bind fun r s1 => match asDic s1 r with
  | some _ => (mLeak k s1).bind fun y s2 => (mLeak x s2).bind fun z s3 => (match asDic s3 r, keyOf y with
    | some kvs, some k => .ok (.d ((dval kvs k).getD z)) s3
    | _, _ => .stuck)
  | none => .stuck := rfl
noncomputable def rngC : List D → Option (List D)
  | [.int i, .int j, .int c] => rng3 i j c
  | _ => none
@[simp] theorem rngC_3 {i j c : Int} : rngC [.int i, .int j, .int c] = rng3 i j c := rfl
@[simp] theorem ap_Range3 {la : S → Res (List D)} : iRange3 la s = (la s).bind fun ds s1 => optR (rngC ds) s1 := by
  unfold iRange3
  cases la s with
  | ok ds s1 =>
    simp only [Res.bind_ok]
    split
    · rename_i i j c
      rw [rngC_3]; unfold optR; cases rng3 i j c <;> rfl
    · rename_i h
      unfold rngC
      split
      · exact absurd rfl (h _ _ _)
      · rfl
  | exc c p s1 => rfl
  | stuck => rfl
@[simp] theorem ap_tgT_tup {ts : List D → S → Option S} {ds : List D} : tgT ts (.tup ds) s = ts ds s := rfl
@[simp] theorem ap_tgT_lst {ts : List D → S → Option S} {ds : List D} : tgT ts (.lst ds) s = ts ds s := rfl
@[simp] theorem ap_tgs_nil : tgsNil [] s = some s := rfl
@[simp] theorem ap_tgs_cons {t : D → S → Option S} {ts : List D → S → Option S} {x : D} {ds : List D} : tgsCons t ts (x :: ds) s = (match t x s with
  | some s1 => ts ds s1
  | none => none) := rfl
@[simp] theorem ap_tgTup {is : List Nat} {ds : List D} : tgTup is (.tup ds) s = assignAll is (ds.map .d) s := rfl
@[simp] theorem ap_EnumM {la : S → Res (List D)} : iEnumM la s = (la s).bind fun ds s1 => match ds with
  | [.lst xs] => .ok (enumD 0 xs) s1
  | [.scr xs] => .ok (enumD 0 xs) s1
  | _ => .stuck := rfl
end
theorem cut_lohi' {α : Type} {xs : List α} {k m : Nat} (h : k ≤ m) : cut xs (some (k : Int)) (some (m : Int)) = (xs.drop k).take (m - k) := by
  unfold cut HT.sIx
  have e : ¬ ((k : Int) < 0) := by omega
  have e2 : ¬ ((m : Int) < 0) := by omega
  simp only [e, e2, if_false, Int.toNat_natCast]
  by_cases h1 : k ≤ xs.length
  · rw [Nat.min_eq_left h1]
    by_cases h2 : m ≤ xs.length
    · rw [Nat.min_eq_left h2]
    · rw [Nat.min_eq_right (by omega), List.take_of_length_le (by rw [List.length_drop]; omega), List.take_of_length_le (by rw [List.length_drop]; omega)]
  · rw [Nat.min_eq_right (by omega), Nat.min_eq_right (by omega), List.drop_eq_nil_of_le (Nat.le_refl _), List.drop_eq_nil_of_le (by omega)]
    simp
theorem cut_lo' {α : Type} {xs : List α} {k : Nat} : cut xs (some (k : Int)) none = xs.drop k := by
  unfold cut HT.sIx
  have e : ¬ ((k : Int) < 0) := by omega
  simp only [e, if_false, Int.toNat_natCast]
  by_cases h1 : k ≤ xs.length
  · rw [Nat.min_eq_left h1, List.take_of_length_le]
    rw [List.length_drop]
    omega
  · rw [Nat.min_eq_right (by omega), List.drop_eq_nil_of_le (Nat.le_refl _), List.drop_eq_nil_of_le (by omega)]
    simp
/-- a comprehension with a condition -/
theorem compGo_flt {ι : Type} {v : Nat} {e : M} {cond : S → Res Bool} {env : List Slot} {gl : List MObj} (hv : v < env.length) (a b : ι → D) (p : ι → Bool) : ∀ (l : List ι) (acc : List D), acc.length + l.length ≤ sizeLine →
    (∀ i ∈ l, cond ⟨env.set v (.val (a i)), gl⟩ = .ok (p i) ⟨env.set v (.val (a i)), gl⟩ ∧ (p i = true → mLeak e ⟨env.set v (.val (a i)), gl⟩ = .ok (b i) ⟨env.set v (.val (a i)), gl⟩)) →
    compGo [v] (tgName v) cond (mLeak e) (l.map a) acc ⟨env.set v .none, gl⟩ = some (acc ++ (l.filter p).map b, ⟨env.set v .none, gl⟩)
  | [], acc, _, _ => by simp [compGo]
  | i :: l, acc, hl, he => by
    obtain ⟨c1, e1⟩ := he i List.mem_cons_self
    have hl' : acc.length < sizeLine := by simp only [List.length_cons] at hl; omega
    have ta : tgName v (a i) ⟨env.set v .none, gl⟩ = some ⟨env.set v (.val (a i)), gl⟩ := by
      rw [ap_tgName, as_d (by simpa using hv), List.set_set]
    rw [List.map_cons]
    unfold compGo
    rw [ta]
    simp only [c1]
    by_cases h : p i = true
    · have e2 := compGo_flt hv a b p l (acc ++ [b i]) (by simp only [List.length_append, List.length_cons, List.length_nil] at hl ⊢; omega) fun j m => he j (List.mem_cons_of_mem _ m)
      simp only [h, if_true, e1 h, hl']
      show compGo [v] (tgName v) cond (mLeak e) (l.map a) (acc ++ [b i]) ⟨(env.set v (.val (a i))).set v .none, gl⟩ = _
      rw [List.set_set, e2, List.filter_cons_of_pos h]
      simp
    · have e2 := compGo_flt hv a b p l acc (by simp only [List.length_cons] at hl ⊢; omega) fun j m => he j (List.mem_cons_of_mem _ m)
      simp only [h, if_false]
      show compGo [v] (tgName v) cond (mLeak e) (l.map a) acc ⟨(env.set v (.val (a i))).set v .none, gl⟩ = _
      rw [List.set_set, e2, List.filter_cons_of_neg h]
theorem comp_flt {ι : Type} {v : Nat} {e : M} {cond : S → Res Bool} {env : List Slot} {gl : List MObj} {it : S → Res (List D)} {s0 : S} (l : List ι) (a b : ι → D) (p : ι → Bool) (hi : it s0 = .ok (l.map a) ⟨env, gl⟩) (hv : v < env.length) (ho : noOwn env [v] = true) (hl : l.length ≤ 1000000)
    (he : ∀ i ∈ l, cond ⟨env.set v (.val (a i)), gl⟩ = .ok (p i) ⟨env.set v (.val (a i)), gl⟩ ∧ (p i = true → mLeak e ⟨env.set v (.val (a i)), gl⟩ = .ok (b i) ⟨env.set v (.val (a i)), gl⟩)) :
    mComp [v] it (tgName v) cond e s0 = .ok (.new (.lst ((l.filter p).map b))) ⟨env, gl⟩ := by
  have h1 := compGo_flt hv a b p l [] (by rw [List.length_nil, Nat.zero_add]; exact szN _ hl) he
  rw [ap_Comp, hi, Res.bind_ok, if_pos ho]
  show (match compGo [v] (tgName v) cond (mLeak e) (l.map a) [] ⟨env.set v .none, gl⟩ with | some (acc, s2) => Res.ok (RV.new (.lst acc)) ⟨restE env s2.env [v], s2.gl⟩ | none => .stuck) = _
  rw [h1]
  show Res.ok (RV.new (.lst ([] ++ (l.filter p).map b))) (⟨restE env (env.set v .none) [v], gl⟩ : S) = _
  rw [restE_one hv, List.nil_append]
end MI
/-! # Equations to run mirrors of classes -/
namespace MI
open PySem PySem.Spec PyProof.Rows L2
section
variable {s : S} {e : List Slot} {gl : List MObj} {o m : M} {c f : Str} {n i : Nat} {fs : List (Str × D)}
@[simp] theorem insOf_gl : insOf c ⟨e, gl⟩ (.gl n) = (match gl[n]? with | some (.ins c' fs) => if c' = c then some fs else none | _ => none) := rfl
@[simp] theorem locOf_ref : locOf (.d (.ref n)) = some (.gl n) := rfl
@[simp] theorem ap_Fld : mFld c f o s = (o s).bind fun r s1 => match locOf r with
  | some l => (match insOf c s1 l with
    | some fs => (match fs.lookup f with
      | some d => .ok (.d d) s1
      | none => .stuck)
    | none => .stuck)
  | none => .stuck := rfl
@[simp] theorem ap_SetFld : mSetFld c f o m s = (mLeak m s).bind fun d s1 => (o s1).bind fun r s2 => match locOf r with
  | some l => (match insOf c s2 l with
    | some fs => if fs.length < 1000 then .ok .nx (setCell s2 l (.ins c (putD f d fs))) else .stuck
    | none => .stuck)
  | none => .stuck := rfl
@[simp] theorem ap_AugFld {op : Int → Int → Int} : mAugFld c f op o m s = (o s).bind fun r s1 => match locOf r with
  | some l => (match insOf c s1 l with
    | some fs => (match fs.lookup f with
      | some (.int i) => (mLeak m s1).bind fun d s2 => (match d, insOf c s2 l with
        | .int j, some fs2 => if fs2.length < 1000 then .ok .nx (setCell s2 l (.ins c (putD f (.int (op i j)) fs2))) else .stuck
        | _, _ => .stuck)
      | _ => .stuck)
    | none => .stuck)
  | none => .stuck := rfl
@[simp] theorem ap_UnpF {t : List D → S → Option S} : mUnpF t m s = (mLeak m s).bind fun d s1 => match d with
  | .tup ds => (match t ds s1 with
    | some s2 => .ok .nx s2
    | none => .stuck)
  | _ => .stuck := by
  unfold mUnpF
  cases mLeak m s <;> rfl
@[simp] theorem ap_tgFld {d : D} : tgFld c f i d ⟨e, gl⟩ = (match e[i]? with
  | some (.val (.ref n)) => (match insOf c ⟨e, gl⟩ (.gl n) with
    | some fs => if fs.length < 1000 then some (setCell ⟨e, gl⟩ (.gl n) (.ins c (putD f d fs))) else none
    | none => none)
  | _ => none) := rfl
@[simp] theorem ap_Meth {fm : Fm} {a : S → Res (List D)} {mm : Str} : mMeth c mm fm o a s = (o s).bind fun r s1 => match r with
  | .d (.ref n) => (match insOf c s1 (.gl n) with
    | some fs => (match fs.lookup mm with
      | none => (a s1).bind fun ds s2 => (match fm (.ref n :: ds) s2.gl with
        | .ok d gl => .ok (.d d) { s2 with gl := gl }
        | .exc x p gl => .exc x p { s2 with gl := gl }
        | .stuck => .stuck)
      | some _ => .stuck)
    | none => .stuck)
  | _ => .stuck := rfl
@[simp] theorem ap_Make {fm : Fm} {a : S → Res (List D)} : mMake c fm a s = (a s).bind fun ds s1 => match fm (.ref s1.gl.length :: ds) (s1.gl ++ [.ins c []]) with
  | .ok .non gl => .ok (.d (.ref s1.gl.length)) { s1 with gl := gl }
  | .exc x p gl => .exc x p { s1 with gl := gl }
  | _ => .stuck := rfl
end
theorem set_lt {gl : List MObj} {i : Nat} {o : MObj} (h : gl[i]? = some o) : i < gl.length := by
  rcases Nat.lt_or_ge i gl.length with z | z
  · exact z
  · rw [List.getElem?_eq_none z] at h; cases h
theorem set_at {gl : List MObj} {i : Nat} {o o' : MObj} (h : gl[i]? = some o) : (gl.set i o')[i]? = some o' := by
  rw [List.getElem?_set_self (set_lt h)]
theorem atI_get {xs : List D} {k : Nat} {x : D} (h : xs[k]? = some x) : atI xs (k : Int) = some x := by
  have hl := (List.getElem?_eq_some_iff.mp h).1
  unfold atI ixN
  rw [if_pos (by omega), if_pos (by omega)]
  simpa using h
end MI
namespace K11
open PySem PySem.Spec PyProof.Rows L2 MI
abbrev tp (i : Nat) : Stmt := PySem.Challenge.pw_postingstold_k11_whole_scores.main.body.getD i (.Pass ⟨0, 0, 0, 0⟩)
abbrev mt (i j : Nat) : Stmt := inClass (tp i) j
structure Fx (P : Program) (K : PySem.W.Frag) (mg : Str → Option Value) : Prop where
  g_isinstance : mg "isinstance" = none
  g_bool : mg "bool" = none
  g_int : mg "int" = none
  d_is_whole : DefM K mg "is_whole" (defArgs (tp 3)) (defBody (tp 3)) (defScope (tp 3))
  g_len : mg "len" = none
  g_range : mg "range" = none
  g_all : mg "all" = none
  d_is_ascending : DefM K mg "is_ascending" (defArgs (tp 4)) (defBody (tp 4)) (defScope (tp 4))
  g_abs : mg "abs" = none
  d_divisor_of : DefM K mg "divisor_of" (defArgs (tp 6)) (defBody (tp 6)) (defScope (tp 6))
  d_ratio_of : DefM K mg "ratio_of" (defArgs (tp 7)) (defBody (tp 7)) (defScope (tp 7))
  g_tuple : mg "tuple" = none
  d_is_ratio : DefM K mg "is_ratio" (defArgs (tp 8)) (defBody (tp 8)) (defScope (tp 8))
  d_sum_of : DefM K mg "sum_of" (defArgs (tp 9)) (defBody (tp 9)) (defScope (tp 9))
  d_times_of : DefM K mg "times_of" (defArgs (tp 10)) (defBody (tp 10)) (defScope (tp 10))
  d_is_below : DefM K mg "is_below" (defArgs (tp 11)) (defBody (tp 11)) (defScope (tp 11))
  v_DIGITS : GStr mg "DIGITS" "0123456789"
  v_SMALL : GStr mg "SMALL" "abcdefghijklmnopqrstuvwxyz"
  d_is_word_sign : DefM K mg "is_word_sign" (defArgs (tp 14)) (defBody (tp 14)) (defScope (tp 14))
  v_LONGEST_WORD : GInt mg "LONGEST_WORD" 20
  g_str : mg "str" = none
  d_is_word : DefM K mg "is_word" (defArgs (tp 15)) (defBody (tp 15)) (defScope (tp 15))
  d_turned_word : DefM K mg "turned_word" (defArgs (tp 17)) (defBody (tp 17)) (defScope (tp 17))
  d_term_of : DefM K mg "term_of" (defArgs (tp 18)) (defBody (tp 18)) (defScope (tp 18))
  v_MOST_WISHES : GInt mg "MOST_WISHES" 8
  d_are_wishes : DefM K mg "are_wishes" (defArgs (tp 21)) (defBody (tp 21)) (defScope (tp 21))
  g_sorted : mg "sorted" = none
  g_set : mg "set" = none
  d_wish_terms : DefM K mg "wish_terms" (defArgs (tp 22)) (defBody (tp 22)) (defScope (tp 22))
  d_weight_of : DefM K mg "weight_of" (defArgs (tp 23)) (defBody (tp 23)) (defScope (tp 23))
  d_part_of : DefM K mg "part_of" (defArgs (tp 24)) (defBody (tp 24)) (defScope (tp 24))
  d_score_of : DefM K mg "score_of" (defArgs (tp 25)) (defBody (tp 25)) (defScope (tp 25))
  d__law_mix : DefM K mg "_law_mix" (defArgs (tp 27)) (defBody (tp 27)) (defScope (tp 27))
  g_list : mg "list" = none
  d__law_tape : DefM K mg "_law_tape" (defArgs (tp 28)) (defBody (tp 28)) (defScope (tp 28))
  d__law_take : DefM K mg "_law_take" (defArgs (tp 29)) (defBody (tp 29)) (defScope (tp 29))
  d__law_same : DefM K mg "_law_same" (defArgs (tp 30)) (defBody (tp 30)) (defScope (tp 30))
  d__law_rules : DefM K mg "_law_rules" (defArgs (tp 31)) (defBody (tp 31)) (defScope (tp 31))
  d__law_word : DefM K mg "_law_word" (defArgs (tp 32)) (defBody (tp 32)) (defScope (tp 32))
  d__law_term : DefM K mg "_law_term" (defArgs (tp 33)) (defBody (tp 33)) (defScope (tp 33))
  d__law_spoilt : DefM K mg "_law_spoilt" (defArgs (tp 34)) (defBody (tp 34)) (defScope (tp 34))
  d__law_low : DefM K mg "_law_low" (defArgs (tp 35)) (defBody (tp 35)) (defScope (tp 35))
  d__law_is_word : DefM K mg "_law_is_word" (defArgs (tp 36)) (defBody (tp 36)) (defScope (tp 36))
  g_dict : mg "dict" = none
  g_min : mg "min" = none
  d_law : DefM K mg "law" (defArgs (tp 37)) (defBody (tp 37)) (defScope (tp 37))
noncomputable section
variable {P : Program} {w : World} {K : PySem.W.Frag} {mg : Str → Option Value} {base : Heap}
theorem sc_is_whole : FnScope ["value"] ["value"] (defScope (tp 3)) := sc_of (by decide +kernel)
def b_is_whole : S → Res Out := (mRet (mAndV (mFn1 (fIsi .int) (mVar 0)) (mNotV (mFn1 (fIsi .bool) (mVar 0)))))
def f_is_whole : Fm := mDef 1 1 b_is_whole
theorem F_is_whole (c : Fx P K mg) : FnM P w K mg base 1 "is_whole" ["value"] f_is_whole := by
  refine fnM (N := ["value"]) (m := b_is_whole) c.d_is_whole sc_is_whole (by decide) (fun _ _ _ _ _ _ us hl => match us, hl with | [_], _ => rfl) fun f cdv A outer s H E hr => ?_
  have nd := (sc_is_whole).nd
  exact (mss_one (ms_ret (me_and (me_isi (T := .int) (me_var (i := 0)) (by rfl) c.g_isinstance (by rfl) c.g_int (by decide +kernel)) (me_one (me_not (me_isi (T := .bool) (me_var (i := 0)) (by rfl) c.g_isinstance (by rfl) c.g_bool (by decide +kernel)))))))
theorem sc_is_ascending : FnScope ["rows", "k"] ["rows"] (defScope (tp 4)) := sc_of (by decide +kernel)
def e_is_ascending_1 : M := (mBin opLt (mBin opIx (mVar 0) (mVar 1)) (mBin opIx (mVar 0) (mBin opAdd (mVar 1) (mC (.int 1)))))
def b_is_ascending : S → Res Out := (mRet (mFn1 fAll (mComp [1] (iRange1 (mACons (mBin opSub (mFn1 fLen (mVar 0)) (mC (.int 1))) mANil)) (tgName 1) mYes e_is_ascending_1)))
def f_is_ascending : Fm := mDef 1 2 b_is_ascending
theorem F_is_ascending (c : Fx P K mg) : FnM P w K mg base 1 "is_ascending" ["rows"] f_is_ascending := by
  refine fnM (N := ["rows", "k"]) (m := b_is_ascending) c.d_is_ascending sc_is_ascending (by decide) (fun _ _ _ _ _ _ us hl => match us, hl with | [_], _ => rfl) fun f cdv A outer s H E hr => ?_
  have nd := (sc_is_ascending).nd
  exact (mss_one (ms_ret (me_all (by rfl) (me_comp (by rfl) nd (mi_range1 (ma_cons (me_sub (me_len (me_var (i := 0)) (by rfl) c.g_len) me_int) ma_nil) (by rfl) c.g_range) (blk_of (own := [("k", 1)]) (by rfl)) mgk_name (by decide) (fun _ _ _ _ _ => (mg_name nd).pg) (fun _ _ _ _ _ => mts_nil) (fun _ _ _ _ _ => (me_lt (me_ix (me_var (i := 0)) (me_var (i := 1))) (me_ix (me_var (i := 0)) (me_add (me_var (i := 1)) me_int))))) (by rfl) c.g_all)))
theorem sc_divisor_of : FnScope ["a", "b"] ["a", "b"] (defScope (tp 6)) := sc_of (by decide +kernel)
def t_divisor_of_1 : S → Res Bool := (mTru (mVar 1))
def l_divisor_of_2 : S → Res Out := (mParN [0, 1] (mRCons (mVar 1) (mRCons (mBin opMod (mVar 0) (mVar 1)) mRNil)))
def b_divisor_of : S → Res Out := (mSeq (mParN [0, 1] (mRCons (mFn1 fAbs (mVar 0)) (mRCons (mFn1 fAbs (mVar 1)) mRNil))) (mSeq (mWhile t_divisor_of_1 l_divisor_of_2) (mRet (mVar 0))))
def f_divisor_of : Fm := mDef 2 2 b_divisor_of
theorem F_divisor_of (c : Fx P K mg) : FnM P w K mg base 1 "divisor_of" ["a", "b"] f_divisor_of := by
  refine fnM (N := ["a", "b"]) (m := b_divisor_of) c.d_divisor_of sc_divisor_of (by decide) (fun _ _ _ _ _ _ us hl => match us, hl with | [_, _], _ => rfl) fun f cdv A outer s H E hr => ?_
  have nd := (sc_divisor_of).nd
  exact (mss_cons (ms_par (i := 0) (j := 1) (by rfl) nd (mr_cons (me_abs (me_var (i := 0)) (by rfl) c.g_abs) (mr_cons (me_abs (me_var (i := 1)) (by rfl) c.g_abs) mr_nil))) (mss_cons (ms_while owns (mt_val (me_var (i := 1))) (mss_one (ms_par (i := 0) (j := 1) (by rfl) nd (mr_cons (me_var (i := 1)) (mr_cons (me_mod (me_var (i := 0)) (me_var (i := 1))) mr_nil))))) (mss_one (ms_ret (me_var (i := 0))))))
theorem sc_ratio_of : FnScope ["p", "q", "g"] ["p", "q"] (defScope (tp 7)) := sc_of (by decide +kernel)
def b_ratio_of : S → Res Out := (mSeq (mIfS (mBl (mBin opLt (mVar 1) (mC (.int 0)))) (mParN [0, 1] (mRCons (mFn1 fNeg (mVar 0)) (mRCons (mFn1 fNeg (mVar 1)) mRNil))) mNx) (mSeq (mSet 2 (mCall f_divisor_of (mACons (mVar 0) (mACons (mVar 1) mANil)))) (mRet (mTup (mACons (mBin opFdiv (mVar 0) (mVar 2)) (mACons (mBin opFdiv (mVar 1) (mVar 2)) mANil))))))
def f_ratio_of : Fm := mDef 2 3 b_ratio_of
theorem F_ratio_of (c : Fx P K mg) : FnM P w K mg base 2 "ratio_of" ["p", "q"] f_ratio_of := by
  refine fnM (N := ["p", "q", "g"]) (m := b_ratio_of) c.d_ratio_of sc_ratio_of (by decide) (fun _ _ _ _ _ _ us hl => match us, hl with | [_, _], _ => rfl) fun f cdv A outer s H E hr => ?_
  have nd := (sc_ratio_of).nd
  exact (mss_cons (ms_if (mt_cmp or_lt os_lt (me_var (i := 1)) me_int (nomark _)) (mss_one (ms_par (i := 0) (j := 1) (by rfl) nd (mr_cons (me_neg (me_var (i := 0))) (mr_cons (me_neg (me_var (i := 1))) mr_nil)))) mss_nil) (mss_cons (ms_set (i := 2) (me_fn (F_divisor_of c) hr (by decide) (by rfl) takesC (ma_cons (me_var (i := 0)) (ma_cons (me_var (i := 1)) ma_nil))) nd) (mss_one (ms_ret (me_tup (ma_cons (me_fdiv (me_var (i := 0)) (me_var (i := 2))) (ma_cons (me_fdiv (me_var (i := 1)) (me_var (i := 2))) ma_nil)))))))
theorem sc_is_ratio : FnScope ["value"] ["value"] (defScope (tp 8)) := sc_of (by decide +kernel)
def b_is_ratio : S → Res Out := (mSeq (mIfS (mOrT (mNotT (mTru (mFn1 (fIsi .tup) (mVar 0)))) (mOrT (mBl (mBin (opEq true) (mFn1 fLen (mVar 0)) (mC (.int 2)))) (mOrT (mNotT (mTru (mCall f_is_whole (mACons (mBin opIx (mVar 0) (mC (.int 0))) mANil)))) (mNotT (mTru (mCall f_is_whole (mACons (mBin opIx (mVar 0) (mC (.int 1))) mANil))))))) (mRet (mC (.bl false))) mNx) (mRet (mAndV (mBin opGt (mBin opIx (mVar 0) (mC (.int 1))) (mC (.int 0))) (mBin (opEq false) (mCall f_ratio_of (mACons (mBin opIx (mVar 0) (mC (.int 0))) (mACons (mBin opIx (mVar 0) (mC (.int 1))) mANil))) (mVar 0)))))
def f_is_ratio : Fm := mDef 1 1 b_is_ratio
theorem F_is_ratio (c : Fx P K mg) : FnM P w K mg base 3 "is_ratio" ["value"] f_is_ratio := by
  refine fnM (N := ["value"]) (m := b_is_ratio) c.d_is_ratio sc_is_ratio (by decide) (fun _ _ _ _ _ _ us hl => match us, hl with | [_], _ => rfl) fun f cdv A outer s H E hr => ?_
  have nd := (sc_is_ratio).nd
  exact (mss_cons (ms_if (mt_w (mw_or (mt_not (mt_val (me_isi (T := .tup) (me_var (i := 0)) (by rfl) c.g_isinstance (by rfl) c.g_tuple (by decide +kernel)))) (mw_or (mt_cmp (op_neM hr.units) os_eq (me_len (me_var (i := 0)) (by rfl) c.g_len) me_int (nomark _)) (mw_or (mt_not (mt_val (me_fn (F_is_whole c) hr (by decide) (by rfl) takesC (ma_cons (me_ix (me_var (i := 0)) me_int) ma_nil)))) (mw_or1 (mt_not (mt_val (me_fn (F_is_whole c) hr (by decide) (by rfl) takesC (ma_cons (me_ix (me_var (i := 0)) me_int) ma_nil))))))))) (mss_one (ms_ret me_bl)) mss_nil) (mss_one (ms_ret (me_and (me_gt (me_ix (me_var (i := 0)) me_int) me_int) (me_one (me_eq hr.units (me_fn (F_ratio_of c) hr (by decide) (by rfl) takesC (ma_cons (me_ix (me_var (i := 0)) me_int) (ma_cons (me_ix (me_var (i := 0)) me_int) ma_nil))) (me_var (i := 0))))))))
theorem sc_sum_of : FnScope ["one", "other"] ["one", "other"] (defScope (tp 9)) := sc_of (by decide +kernel)
def b_sum_of : S → Res Out := (mRet (mCall f_ratio_of (mACons (mBin opAdd (mBin opMul (mBin opIx (mVar 0) (mC (.int 0))) (mBin opIx (mVar 1) (mC (.int 1)))) (mBin opMul (mBin opIx (mVar 1) (mC (.int 0))) (mBin opIx (mVar 0) (mC (.int 1))))) (mACons (mBin opMul (mBin opIx (mVar 0) (mC (.int 1))) (mBin opIx (mVar 1) (mC (.int 1)))) mANil))))
def f_sum_of : Fm := mDef 2 2 b_sum_of
theorem F_sum_of (c : Fx P K mg) : FnM P w K mg base 3 "sum_of" ["one", "other"] f_sum_of := by
  refine fnM (N := ["one", "other"]) (m := b_sum_of) c.d_sum_of sc_sum_of (by decide) (fun _ _ _ _ _ _ us hl => match us, hl with | [_, _], _ => rfl) fun f cdv A outer s H E hr => ?_
  have nd := (sc_sum_of).nd
  exact (mss_one (ms_ret (me_fn (F_ratio_of c) hr (by decide) (by rfl) takesC (ma_cons (me_add (me_mul (me_ix (me_var (i := 0)) me_int) (me_ix (me_var (i := 1)) me_int)) (me_mul (me_ix (me_var (i := 1)) me_int) (me_ix (me_var (i := 0)) me_int))) (ma_cons (me_mul (me_ix (me_var (i := 0)) me_int) (me_ix (me_var (i := 1)) me_int)) ma_nil)))))
theorem sc_times_of : FnScope ["one", "other"] ["one", "other"] (defScope (tp 10)) := sc_of (by decide +kernel)
def b_times_of : S → Res Out := (mRet (mCall f_ratio_of (mACons (mBin opMul (mBin opIx (mVar 0) (mC (.int 0))) (mBin opIx (mVar 1) (mC (.int 0)))) (mACons (mBin opMul (mBin opIx (mVar 0) (mC (.int 1))) (mBin opIx (mVar 1) (mC (.int 1)))) mANil))))
def f_times_of : Fm := mDef 2 2 b_times_of
theorem F_times_of (c : Fx P K mg) : FnM P w K mg base 3 "times_of" ["one", "other"] f_times_of := by
  refine fnM (N := ["one", "other"]) (m := b_times_of) c.d_times_of sc_times_of (by decide) (fun _ _ _ _ _ _ us hl => match us, hl with | [_, _], _ => rfl) fun f cdv A outer s H E hr => ?_
  have nd := (sc_times_of).nd
  exact (mss_one (ms_ret (me_fn (F_ratio_of c) hr (by decide) (by rfl) takesC (ma_cons (me_mul (me_ix (me_var (i := 0)) me_int) (me_ix (me_var (i := 1)) me_int)) (ma_cons (me_mul (me_ix (me_var (i := 0)) me_int) (me_ix (me_var (i := 1)) me_int)) ma_nil)))))
theorem sc_is_below : FnScope ["one", "other"] ["one", "other"] (defScope (tp 11)) := sc_of (by decide +kernel)
def b_is_below : S → Res Out := (mRet (mBin opLt (mBin opMul (mBin opIx (mVar 0) (mC (.int 0))) (mBin opIx (mVar 1) (mC (.int 1)))) (mBin opMul (mBin opIx (mVar 1) (mC (.int 0))) (mBin opIx (mVar 0) (mC (.int 1))))))
def f_is_below : Fm := mDef 2 2 b_is_below
theorem F_is_below (c : Fx P K mg) : FnM P w K mg base 1 "is_below" ["one", "other"] f_is_below := by
  refine fnM (N := ["one", "other"]) (m := b_is_below) c.d_is_below sc_is_below (by decide) (fun _ _ _ _ _ _ us hl => match us, hl with | [_, _], _ => rfl) fun f cdv A outer s H E hr => ?_
  have nd := (sc_is_below).nd
  exact (mss_one (ms_ret (me_lt (me_mul (me_ix (me_var (i := 0)) me_int) (me_ix (me_var (i := 1)) me_int)) (me_mul (me_ix (me_var (i := 1)) me_int) (me_ix (me_var (i := 0)) me_int)))))
theorem sc_is_word_sign : FnScope ["sign"] ["sign"] (defScope (tp 14)) := sc_of (by decide +kernel)
def b_is_word_sign : S → Res Out := (mRet (mOrV (mBin (opInC false) (mVar 0) (mC (.str "abcdefghijklmnopqrstuvwxyz"))) (mBin (opInC false) (mVar 0) (mC (.str "0123456789")))))
def f_is_word_sign : Fm := mDef 1 1 b_is_word_sign
theorem F_is_word_sign (c : Fx P K mg) : FnM P w K mg base 1 "is_word_sign" ["sign"] f_is_word_sign := by
  refine fnM (N := ["sign"]) (m := b_is_word_sign) c.d_is_word_sign sc_is_word_sign (by decide) (fun _ _ _ _ _ _ us hl => match us, hl with | [_], _ => rfl) fun f cdv A outer s H E hr => ?_
  have nd := (sc_is_word_sign).nd
  exact (mss_one (ms_ret (me_or (me_inC (me_var (i := 0)) (me_gstr c.v_SMALL (by rfl)) (by rfl)) (me_one (me_inC (me_var (i := 0)) (me_gstr c.v_DIGITS (by rfl)) (by rfl))))))
theorem sc_is_word : FnScope ["value", "sign"] ["value"] (defScope (tp 15)) := sc_of (by decide +kernel)
def e_is_word_1 : M := (mCall f_is_word_sign (mACons (mVar 1) mANil))
def b_is_word : S → Res Out := (mSeq (mIfS (mOrT (mNotT (mTru (mFn1 (fIsi .str) (mVar 0)))) (mNotT (mBl (mChain opLe opLe (mC (.int 1)) (mFn1 fLen (mVar 0)) (mC (.int 20)))))) (mRet (mC (.bl false))) mNx) (mRet (mFn1 fAll (mComp [1] (iStrM (mVar 0)) (tgName 1) mYes e_is_word_1))))
def f_is_word : Fm := mDef 1 2 b_is_word
theorem F_is_word (c : Fx P K mg) : FnM P w K mg base 2 "is_word" ["value"] f_is_word := by
  refine fnM (N := ["value", "sign"]) (m := b_is_word) c.d_is_word sc_is_word (by decide) (fun _ _ _ _ _ _ us hl => match us, hl with | [_], _ => rfl) fun f cdv A outer s H E hr => ?_
  have nd := (sc_is_word).nd
  exact (mss_cons (ms_if (mt_w (mw_or (mt_not (mt_val (me_isi (T := .str) (me_var (i := 0)) (by rfl) c.g_isinstance (by rfl) c.g_str (by decide +kernel)))) (mw_or1 (mt_not (mt_chain or_le or_le os_le os_le me_int (me_len (me_var (i := 0)) (by rfl) c.g_len) (me_gint c.v_LONGEST_WORD (by rfl))))))) (mss_one (ms_ret me_bl)) mss_nil) (mss_one (ms_ret (me_all (by rfl) (me_comp (by rfl) nd (mi_str (me_var (i := 0))) (blk_of (own := [("sign", 1)]) (by rfl)) mgk_name (by decide) (fun _ _ _ _ _ => (mg_name nd).pg) (fun _ _ _ _ _ => mts_nil) (fun _ _ _ _ _ => (me_fn (F_is_word_sign c) hr (by decide) (by rfl) takesB (ma_cons (me_var (i := 1)) ma_nil)))) (by rfl) c.g_all))))
theorem sc_turned_word : FnScope ["endings", "word", "ending", "other", "least", "stem"] ["endings", "word"] (defScope (tp 17)) := sc_of (by decide +kernel)
def l_turned_word_1 : S → Res Out := (mSeq (mSet 5 (mBin opSub (mFn1 fLen (mVar 1)) (mFn1 fLen (mVar 2)))) (mIfS (mAndT (mBl (mBin opGe (mVar 5) (mVar 4))) (mBl (mBin (opEq false) (mSlice (mVar 1) (mPart (mVar 5)) mNoPart) (mVar 2)))) (mRet (mBin opAdd (mSlice (mVar 1) mNoPart (mPart (mVar 5))) (mVar 3))) mNx))
def b_turned_word : S → Res Out := (mSeq (mFor (iSeq (mVar 0)) (tgTup [2, 3, 4]) l_turned_word_1) (mRet (mVar 1)))
def f_turned_word : Fm := mDef 2 6 b_turned_word
theorem F_turned_word (c : Fx P K mg) : FnM P w K mg base 1 "turned_word" ["endings", "word"] f_turned_word := by
  refine fnM (N := ["endings", "word", "ending", "other", "least", "stem"]) (m := b_turned_word) c.d_turned_word sc_turned_word (by decide) (fun _ _ _ _ _ _ us hl => match us, hl with | [_, _], _ => rfl) fun f cdv A outer s H E hr => ?_
  have nd := (sc_turned_word).nd
  exact (mss_cons (ms_for owns (by rfl) (mi_seq (me_var (i := 0))) (mg_tup (by rfl) (mgs_cons (i := 2) (mgs_cons (i := 3) (mgs_cons (i := 4) mgs_nil nd) nd) nd)) (mss_cons (ms_set (i := 5) (me_sub (me_len (me_var (i := 1)) (by rfl) c.g_len) (me_len (me_var (i := 2)) (by rfl) c.g_len)) nd) (mss_one (ms_if (mt_w (mw_and (mt_cmp or_ge os_ge (me_var (i := 5)) (me_var (i := 4)) (nomark _)) (mw_and1 (mt_cmp (op_eqM hr.units) os_eq (me_slice (me_var (i := 1)) (mo_some (me_var (i := 5))) mo_none) (me_var (i := 2)) (nomark _))))) (mss_one (ms_ret (me_add (me_slice (me_var (i := 1)) mo_none (mo_some (me_var (i := 5)))) (me_var (i := 3))))) mss_nil)))) (mss_one (ms_ret (me_var (i := 1)))))
theorem sc_term_of : FnScope ["rules", "word"] ["rules", "word"] (defScope (tp 18)) := sc_of (by decide +kernel)
def b_term_of : S → Res Out := (mRet (mIf (mBl (mBin (opIn false) (mVar 1) (mBin opIx (mVar 0) (mC (.int 0))))) (mC .non) (mCall f_turned_word (mACons (mBin opIx (mVar 0) (mC (.int 1))) (mACons (mVar 1) mANil)))))
def f_term_of : Fm := mDef 2 2 b_term_of
theorem F_term_of (c : Fx P K mg) : FnM P w K mg base 2 "term_of" ["rules", "word"] f_term_of := by
  refine fnM (N := ["rules", "word"]) (m := b_term_of) c.d_term_of sc_term_of (by decide) (fun _ _ _ _ _ _ us hl => match us, hl with | [_, _], _ => rfl) fun f cdv A outer s H E hr => ?_
  have nd := (sc_term_of).nd
  exact (mss_one (ms_ret (me_if (mt_cmp (op_inM hr.units) os_in (me_var (i := 1)) (me_ix (me_var (i := 0)) me_int) (by rfl)) me_non (me_fn (F_turned_word c) hr (by decide) (by rfl) takesC (ma_cons (me_ix (me_var (i := 0)) me_int) (ma_cons (me_var (i := 1)) ma_nil))))))
theorem sc_are_wishes : FnScope ["value", "word"] ["value"] (defScope (tp 21)) := sc_of (by decide +kernel)
def e_are_wishes_1 : M := (mCall f_is_word (mACons (mVar 1) mANil))
def b_are_wishes : S → Res Out := (mSeq (mIfS (mOrT (mNotT (mTru (mFn1 (fIsi .tup) (mVar 0)))) (mOrT (mBl (mBin opGt (mFn1 fLen (mVar 0)) (mC (.int 8)))) (mNotT (mTru (mFn1 fAll (mComp [1] (iSeq (mVar 0)) (tgName 1) mYes e_are_wishes_1)))))) (mRet (mC (.bl false))) mNx) (mRet (mCall f_is_ascending (mACons (mVar 0) mANil))))
def f_are_wishes : Fm := mDef 1 2 b_are_wishes
theorem F_are_wishes (c : Fx P K mg) : FnM P w K mg base 3 "are_wishes" ["value"] f_are_wishes := by
  refine fnM (N := ["value", "word"]) (m := b_are_wishes) c.d_are_wishes sc_are_wishes (by decide) (fun _ _ _ _ _ _ us hl => match us, hl with | [_], _ => rfl) fun f cdv A outer s H E hr => ?_
  have nd := (sc_are_wishes).nd
  exact (mss_cons (ms_if (mt_w (mw_or (mt_not (mt_val (me_isi (T := .tup) (me_var (i := 0)) (by rfl) c.g_isinstance (by rfl) c.g_tuple (by decide +kernel)))) (mw_or (mt_cmp or_gt os_gt (me_len (me_var (i := 0)) (by rfl) c.g_len) (me_gint c.v_MOST_WISHES (by rfl)) (nomark _)) (mw_or1 (mt_not (mt_val (me_all (by rfl) (me_comp (by rfl) nd (mi_seq (me_var (i := 0))) (blk_of (own := [("word", 1)]) (by rfl)) mgk_name (by decide) (fun _ _ _ _ _ => (mg_name nd).pg) (fun _ _ _ _ _ => mts_nil) (fun _ _ _ _ _ => (me_fn (F_is_word c) hr (by decide) (by rfl) takesB (ma_cons (me_var (i := 1)) ma_nil)))) (by rfl) c.g_all))))))) (mss_one (ms_ret me_bl)) mss_nil) (mss_one (ms_ret (me_fn (F_is_ascending c) hr (by decide) (by rfl) takesC (ma_cons (me_var (i := 0)) ma_nil)))))
theorem sc_wish_terms : FnScope ["rules", "wishes", "terms", "word", "term"] ["rules", "wishes"] (defScope (tp 22)) := sc_of (by decide +kernel)
def c_wish_terms_1 : S → Res Bool := (mBl (mBin (opIsN true) (mVar 4) (mC .non)))
def e_wish_terms_2 : M := (mCall f_term_of (mACons (mVar 0) (mACons (mVar 3) mANil)))
def b_wish_terms : S → Res Out := (mSeq (mSet 2 (mComp [3] (iSeq (mVar 1)) (tgName 3) mYes e_wish_terms_2)) (mRet (mFn1 fTuple (mFn1 fSortedSet (mComp [4] (iSeq (mVar 2)) (tgName 4) c_wish_terms_1 (mVar 4))))))
def f_wish_terms : Fm := mDef 2 5 b_wish_terms
theorem F_wish_terms (c : Fx P K mg) : FnM P w K mg base 3 "wish_terms" ["rules", "wishes"] f_wish_terms := by
  refine fnM (N := ["rules", "wishes", "terms", "word", "term"]) (m := b_wish_terms) c.d_wish_terms sc_wish_terms (by decide) (fun _ _ _ _ _ _ us hl => match us, hl with | [_, _], _ => rfl) fun f cdv A outer s H E hr => ?_
  have nd := (sc_wish_terms).nd
  exact (mss_cons (ms_setComp (i := 2) (by rfl) nd (mi_seq (me_var (i := 1))) (blk_of (own := [("word", 3)]) (by rfl)) mgk_name (by decide) (fun _ _ _ _ _ => (mg_name nd).pg) (fun _ _ _ _ _ => mts_nil) (fun _ _ _ _ _ => (me_fn (F_term_of c) hr (by decide) (by rfl) takesB (ma_cons (me_var (i := 0)) (ma_cons (me_var (i := 3)) ma_nil))))) (mss_one (ms_ret (me_tuple (me_sortedSet (by rfl) (me_comp (by rfl) nd (mi_seq (me_var (i := 2))) (blk_of (own := [("term", 4)]) (by rfl)) mgk_name (by decide) (fun _ _ _ _ _ => (mg_name nd).pg) (fun _ _ _ _ _ => (mts_one (mt_cmp op_notN os_notN (me_var (i := 4)) me_non (nomark _)))) (fun _ _ _ _ _ => (me_var (i := 4)))) (by rfl) c.g_sorted (by rfl) c.g_set) (by rfl) c.g_tuple))))
theorem sc_weight_of : FnScope ["many", "having"] ["many", "having"] (defScope (tp 23)) := sc_of (by decide +kernel)
def b_weight_of : S → Res Out := (mRet (mCall f_ratio_of (mACons (mBin opAdd (mVar 0) (mC (.int 1))) (mACons (mBin opAdd (mVar 1) (mC (.int 1))) mANil))))
def f_weight_of : Fm := mDef 2 2 b_weight_of
theorem F_weight_of (c : Fx P K mg) : FnM P w K mg base 3 "weight_of" ["many", "having"] f_weight_of := by
  refine fnM (N := ["many", "having"]) (m := b_weight_of) c.d_weight_of sc_weight_of (by decide) (fun _ _ _ _ _ _ us hl => match us, hl with | [_, _], _ => rfl) fun f cdv A outer s H E hr => ?_
  have nd := (sc_weight_of).nd
  exact (mss_one (ms_ret (me_fn (F_ratio_of c) hr (by decide) (by rfl) takesC (ma_cons (me_add (me_var (i := 0)) me_int) (ma_cons (me_add (me_var (i := 1)) me_int) ma_nil)))))
theorem sc_part_of : FnScope ["many", "total", "count", "length"] ["many", "total", "count", "length"] (defScope (tp 24)) := sc_of (by decide +kernel)
def b_part_of : S → Res Out := (mSeq (mIfS (mBl (mBin (opEq false) (mVar 1) (mC (.int 0)))) (mRet (mTup (mACons (mC (.int 0)) (mACons (mC (.int 1)) mANil)))) mNx) (mRet (mCall f_ratio_of (mACons (mBin opMul (mBin opMul (mC (.int 4)) (mVar 2)) (mVar 1)) (mACons (mBin opAdd (mBin opAdd (mBin opMul (mBin opMul (mC (.int 2)) (mVar 2)) (mVar 1)) (mVar 1)) (mBin opMul (mVar 3) (mVar 0))) mANil)))))
def f_part_of : Fm := mDef 4 4 b_part_of
theorem F_part_of (c : Fx P K mg) : FnM P w K mg base 3 "part_of" ["many", "total", "count", "length"] f_part_of := by
  refine fnM (N := ["many", "total", "count", "length"]) (m := b_part_of) c.d_part_of sc_part_of (by decide) (fun _ _ _ _ _ _ us hl => match us, hl with | [_, _, _, _], _ => rfl) fun f cdv A outer s H E hr => ?_
  have nd := (sc_part_of).nd
  exact (mss_cons (ms_if (mt_cmp (op_eqM hr.units) os_eq (me_var (i := 1)) me_int (nomark _)) (mss_one (ms_ret (me_tup (ma_cons me_int (ma_cons me_int ma_nil))))) mss_nil) (mss_one (ms_ret (me_fn (F_ratio_of c) hr (by decide) (by rfl) takesC (ma_cons (me_mul (me_mul me_int (me_var (i := 2))) (me_var (i := 1))) (ma_cons (me_add (me_add (me_mul (me_mul me_int (me_var (i := 2))) (me_var (i := 1))) (me_var (i := 1))) (me_mul (me_var (i := 3)) (me_var (i := 0)))) ma_nil))))))
theorem sc_score_of : FnScope ["many", "total", "weights", "counts", "length", "found", "term"] ["many", "total", "weights", "counts", "length"] (defScope (tp 25)) := sc_of (by decide +kernel)
def l_score_of_1 : S → Res Out := (mIfS (mBl (mBin opGt (mDGet2 (mVar 3) (mVar 6) (mC (.int 0))) (mC (.int 0)))) (mSet 5 (mCall f_sum_of (mACons (mVar 5) (mACons (mCall f_times_of (mACons (mDGet (mVar 2) (mVar 6)) (mACons (mCall f_part_of (mACons (mVar 0) (mACons (mVar 1) (mACons (mDGet (mVar 3) (mVar 6)) (mACons (mVar 4) mANil))))) mANil))) mANil)))) mNx)
def b_score_of : S → Res Out := (mSeq (mSet 5 (mTup (mACons (mC (.int 0)) (mACons (mC (.int 1)) mANil)))) (mSeq (mFor (iSeq (mFn1 fSorted (mVar 2))) (tgName 6) l_score_of_1) (mRet (mVar 5))))
def f_score_of : Fm := mDef 5 7 b_score_of
theorem F_score_of (c : Fx P K mg) : FnM P w K mg base 4 "score_of" ["many", "total", "weights", "counts", "length"] f_score_of := by
  refine fnM (N := ["many", "total", "weights", "counts", "length", "found", "term"]) (m := b_score_of) c.d_score_of sc_score_of (by decide) (fun _ _ _ _ _ _ us hl => match us, hl with | [_, _, _, _, _], _ => rfl) fun f cdv A outer s H E hr => ?_
  have nd := (sc_score_of).nd
  exact (mss_cons (ms_set (i := 5) (me_tup (ma_cons me_int (ma_cons me_int ma_nil))) nd) (mss_cons (ms_for owns (by rfl) (mi_seq (me_sorted (by rfl) (me_var (i := 2)) (by rfl) c.g_sorted)) (mg_name nd) (mss_one (ms_if (mt_cmp or_gt os_gt (me_dget2 hr.units (me_var (i := 3)) (me_var (i := 6)) me_int) me_int (nomark _)) (mss_one (ms_set (i := 5) (me_fn (F_sum_of c) hr (by decide) (by rfl) takesC (ma_cons (me_var (i := 5)) (ma_cons (me_fn (F_times_of c) hr (by decide) (by rfl) takesC (ma_cons (me_dget hr.units (me_var (i := 2)) (me_var (i := 6))) (ma_cons (me_fn (F_part_of c) hr (by decide) (by rfl) takesC (ma_cons (me_var (i := 0)) (ma_cons (me_var (i := 1)) (ma_cons (me_dget hr.units (me_var (i := 3)) (me_var (i := 6))) (ma_cons (me_var (i := 4)) ma_nil))))) ma_nil))) ma_nil))) nd)) mss_nil))) (mss_one (ms_ret (me_var (i := 5))))))
theorem sc__law_mix : FnScope ["number"] ["number"] (defScope (tp 27)) := sc_of (by decide +kernel)
def b__law_mix : S → Res Out := (mSeq (mSet 0 (mBin opMod (mFn1 fInt (mBin opAdd (mBin opMul (mVar 0) (mC (.int 6364136223846793005))) (mC (.int 1442695040888963407)))) (mC (.int 18446744073709551616)))) (mRet (mBin opMod (mFn1 fInt (mBin opAdd (mBin opFdiv (mBin opMul (mVar 0) (mVar 0)) (mC (.int 4294967296))) (mBin opMul (mVar 0) (mC (.int 69621))))) (mC (.int 18446744073709551557)))))
def f__law_mix : Fm := mDef 1 1 b__law_mix
theorem F__law_mix (c : Fx P K mg) : FnM P w K mg base 1 "_law_mix" ["number"] f__law_mix := by
  refine fnM (N := ["number"]) (m := b__law_mix) c.d__law_mix sc__law_mix (by decide) (fun _ _ _ _ _ _ us hl => match us, hl with | [_], _ => rfl) fun f cdv A outer s H E hr => ?_
  have nd := (sc__law_mix).nd
  exact (mss_cons (ms_set (i := 0) (me_mod (me_toInt (me_add (me_mul (me_var (i := 0)) me_int) me_int) (by rfl) c.g_int) me_int) nd) (mss_one (ms_ret (me_mod (me_toInt (me_add (me_fdiv (me_mul (me_var (i := 0)) (me_var (i := 0))) me_int) (me_mul (me_var (i := 0)) me_int)) (by rfl) c.g_int) me_int))))
theorem sc__law_tape : FnScope ["script"] ["script"] (defScope (tp 28)) := sc_of (by decide +kernel)
def b__law_tape : S → Res Out := (mRet (mAlloc (mLst (mACons (mFn1 fList (mSlice (mVar 0) mNoPart (mPart (mC (.int 80))))) (mACons (mC (.int 0)) (mACons (mC (.int 0)) (mACons (mBin opAdd (mC (.int 1)) (mFn1 fLen (mVar 0))) mANil)))))))
def f__law_tape : Fm := mDef 1 1 b__law_tape
theorem F__law_tape (c : Fx P K mg) : FnM P w K mg base 1 "_law_tape" ["script"] f__law_tape := by
  refine fnM (N := ["script"]) (m := b__law_tape) c.d__law_tape sc__law_tape (by decide) (fun _ _ _ _ _ _ us hl => match us, hl with | [_], _ => rfl) fun f cdv A outer s H E hr => ?_
  have nd := (sc__law_tape).nd
  exact (mss_one (ms_ret (me_alloc (me_lst (ma_cons (me_list (me_slice (me_var (i := 0)) mo_none (mo_some me_int)) (by rfl) c.g_list) (ma_cons me_int (ma_cons me_int (ma_cons (me_add me_int (me_len (me_var (i := 0)) (by rfl) c.g_len)) ma_nil))))))))
theorem sc__law_take : FnScope ["tape", "many", "digit", "cell"] ["tape", "many"] (defScope (tp 29)) := sc_of (by decide +kernel)
def b__law_take : S → Res Out := (mSeq (mIfS (mBl (mBin opLt (mBin opIx (mVar 0) (mC (.int 2))) (mVar 1))) (mIfS (mBl (mBin opLt (mBin opIx (mVar 0) (mC (.int 1))) (mFn1 fLen (mBin opIx (mVar 0) (mC (.int 0)))))) (mSeq (mSet 3 (mBin opIx (mBin opIx (mVar 0) (mC (.int 0))) (mBin opIx (mVar 0) (mC (.int 1))))) (mSeq (mSet 3 (mIf (mBl (mBin opGe (mVar 3) (mC (.int 0)))) (mBin opMul (mC (.int 2)) (mVar 3)) (mBin opSub (mBin opMul (mFn1 fNeg (mC (.int 2))) (mVar 3)) (mC (.int 1))))) (mSeq (mSetIx (mBin opAdd (mBin opIx (mVar 0) (mC (.int 1))) (mC (.int 1))) (mVar 0) (mC (.int 1))) (mSeq (mSetIx (mCall f__law_mix (mACons (mBin opAdd (mBin opIx (mVar 0) (mC (.int 3))) (mVar 3)) mANil)) (mVar 0) (mC (.int 3))) (mSetIx (mIf (mBl (mBin opGe (mVar 3) (mBin opPow (mC (.int 10)) (mC (.int 18))))) (mVar 3) (mCall f__law_mix (mACons (mBin opAdd (mCall f__law_mix (mACons (mVar 3) mANil)) (mBin opIx (mVar 0) (mC (.int 1)))) mANil))) (mVar 0) (mC (.int 2))))))) (mSeq (mSetIx (mCall f__law_mix (mACons (mBin opAdd (mBin opIx (mVar 0) (mC (.int 3))) (mC (.int 1))) mANil)) (mVar 0) (mC (.int 3))) (mSetIx (mBin opIx (mVar 0) (mC (.int 3))) (mVar 0) (mC (.int 2))))) mNx) (mSeq (mSet 2 (mBin opMod (mFn1 fInt (mBin opIx (mVar 0) (mC (.int 2)))) (mVar 1))) (mSeq (mSetIx (mBin opFdiv (mBin opIx (mVar 0) (mC (.int 2))) (mVar 1)) (mVar 0) (mC (.int 2))) (mRet (mVar 2)))))
def f__law_take : Fm := mDef 2 4 b__law_take
theorem F__law_take (c : Fx P K mg) : FnM P w K mg base 2 "_law_take" ["tape", "many"] f__law_take := by
  refine fnM (N := ["tape", "many", "digit", "cell"]) (m := b__law_take) c.d__law_take sc__law_take (by decide) (fun _ _ _ _ _ _ us hl => match us, hl with | [_, _], _ => rfl) fun f cdv A outer s H E hr => ?_
  have nd := (sc__law_take).nd
  exact (mss_cons (ms_if (mt_cmp or_lt os_lt (me_ix (me_var (i := 0)) me_int) (me_var (i := 1)) (nomark _)) (mss_one (ms_if (mt_cmp or_lt os_lt (me_ix (me_var (i := 0)) me_int) (me_len (me_ix (me_var (i := 0)) me_int) (by rfl) c.g_len) (nomark _)) (mss_cons (ms_set (i := 3) (me_ix (me_ix (me_var (i := 0)) me_int) (me_ix (me_var (i := 0)) me_int)) nd) (mss_cons (ms_set (i := 3) (me_if (mt_cmp or_ge os_ge (me_var (i := 3)) me_int (nomark _)) (me_mul me_int (me_var (i := 3))) (me_sub (me_mul (me_neg me_int) (me_var (i := 3))) me_int)) nd) (mss_cons (ms_setIx (me_add (me_ix (me_var (i := 0)) me_int) me_int) (me_var (i := 0)) me_int) (mss_cons (ms_setIx (me_fn (F__law_mix c) hr (by decide) (by rfl) takesC (ma_cons (me_add (me_ix (me_var (i := 0)) me_int) (me_var (i := 3))) ma_nil)) (me_var (i := 0)) me_int) (mss_one (ms_setIx (me_if (mt_cmp or_ge os_ge (me_var (i := 3)) (me_pow me_int me_int) (nomark _)) (me_var (i := 3)) (me_fn (F__law_mix c) hr (by decide) (by rfl) takesC (ma_cons (me_add (me_fn (F__law_mix c) hr (by decide) (by rfl) takesC (ma_cons (me_var (i := 3)) ma_nil)) (me_ix (me_var (i := 0)) me_int)) ma_nil))) (me_var (i := 0)) me_int)))))) (mss_cons (ms_setIx (me_fn (F__law_mix c) hr (by decide) (by rfl) takesC (ma_cons (me_add (me_ix (me_var (i := 0)) me_int) me_int) ma_nil)) (me_var (i := 0)) me_int) (mss_one (ms_setIx (me_ix (me_var (i := 0)) me_int) (me_var (i := 0)) me_int))))) mss_nil) (mss_cons (ms_set (i := 2) (me_mod (me_toInt (me_ix (me_var (i := 0)) me_int) (by rfl) c.g_int) (me_var (i := 1))) nd) (mss_cons (ms_setIx (me_fdiv (me_ix (me_var (i := 0)) me_int) (me_var (i := 1))) (me_var (i := 0)) me_int) (mss_one (ms_ret (me_var (i := 2)))))))
theorem sc__law_same : FnScope ["a", "b", "k"] ["a", "b"] (defScope (tp 30)) := sc_of (by decide +kernel)
def e__law_same_1 (fself : Fm) : M := (mCall fself (mACons (mBin opIx (mVar 0) (mVar 2)) (mACons (mBin opIx (mVar 1) (mVar 2)) mANil)))
def b__law_same (fself : Fm) : S → Res Out := (mSeq (mIfS (mOrT (mAndT (mTru (mFn1 (fIsi .tup) (mVar 0))) (mTru (mFn1 (fIsi .tup) (mVar 1)))) (mAndT (mTru (mFn1 (fIsi .lst) (mVar 0))) (mTru (mFn1 (fIsi .lst) (mVar 1))))) (mRet (mAndV (mBin (opEq false) (mFn1 fLen (mVar 0)) (mFn1 fLen (mVar 1))) (mFn1 fAll (mComp [2] (iRange1 (mACons (mFn1 fLen (mVar 0)) mANil)) (tgName 2) mYes (e__law_same_1 fself))))) mNx) (mSeq (mIfS (mOrT (mTru (mFn1 (fIsi .bool) (mVar 0))) (mTru (mFn1 (fIsi .bool) (mVar 1)))) (mRet (mAndV (mFn1 (fIsi .bool) (mVar 0)) (mAndV (mFn1 (fIsi .bool) (mVar 1)) (mBin (opEq false) (mVar 0) (mVar 1))))) mNx) (mSeq (mIfS (mOrT (mAndT (mTru (mFn1 (fIsi .int) (mVar 0))) (mTru (mFn1 (fIsi .int) (mVar 1)))) (mAndT (mTru (mFn1 (fIsi .str) (mVar 0))) (mTru (mFn1 (fIsi .str) (mVar 1))))) (mRet (mBin (opEq false) (mVar 0) (mVar 1))) mNx) (mRet (mAndV (mBin (opIsN false) (mVar 0) (mC .non)) (mBin (opIsN false) (mVar 1) (mC .non)))))))
def f__law_same : Nat → Fm
  | 0 => mDef 2 3 fun _ => .stuck
  | k + 1 => mDef 2 3 (b__law_same (f__law_same k))
theorem F__law_same (c : Fx P K mg) : ∀ k : Nat, FnM P w K mg base (1 + k) "_law_same" ["a", "b"] (f__law_same k)
  | 0 => fnM (N := ["a", "b", "k"]) (k := 0) c.d__law_same sc__law_same (by decide) (fun _ _ _ _ _ _ us hl => match us, hl with | [_, _], _ => rfl) fun f cdv A outer s H E hr => mss_stuck
  | k + 1 => by
    have Fself := F__law_same c k
    refine fnM (N := ["a", "b", "k"]) (k := 1 + k) (m := b__law_same (f__law_same k)) c.d__law_same sc__law_same (by decide) (fun _ _ _ _ _ _ us hl => match us, hl with | [_, _], _ => rfl) fun f cdv A outer s H E hr => ?_
    have nd := (sc__law_same).nd
    exact (mss_cons (ms_if (mt_w (mw_or (mt_w (mw_and (mt_val (me_isi (T := .tup) (me_var (i := 0)) (by rfl) c.g_isinstance (by rfl) c.g_tuple (by decide +kernel))) (mw_and1 (mt_val (me_isi (T := .tup) (me_var (i := 1)) (by rfl) c.g_isinstance (by rfl) c.g_tuple (by decide +kernel)))))) (mw_or1 (mt_w (mw_and (mt_val (me_isi (T := .lst) (me_var (i := 0)) (by rfl) c.g_isinstance (by rfl) c.g_list (by decide +kernel))) (mw_and1 (mt_val (me_isi (T := .lst) (me_var (i := 1)) (by rfl) c.g_isinstance (by rfl) c.g_list (by decide +kernel))))))))) (mss_one (ms_ret (me_and (me_eq hr.units (me_len (me_var (i := 0)) (by rfl) c.g_len) (me_len (me_var (i := 1)) (by rfl) c.g_len)) (me_one (me_all (by rfl) (me_comp (by rfl) nd (mi_range1 (ma_cons (me_len (me_var (i := 0)) (by rfl) c.g_len) ma_nil) (by rfl) c.g_range) (blk_of (own := [("k", 2)]) (by rfl)) mgk_name (by decide) (fun _ _ _ _ _ => (mg_name nd).pg) (fun _ _ _ _ _ => mts_nil) (fun _ _ _ _ _ => (me_fn Fself hr (by omega) (by rfl) takesB (ma_cons (me_ix (me_var (i := 0)) (me_var (i := 2))) (ma_cons (me_ix (me_var (i := 1)) (me_var (i := 2))) ma_nil))))) (by rfl) c.g_all))))) mss_nil) (mss_cons (ms_if (mt_w (mw_or (mt_val (me_isi (T := .bool) (me_var (i := 0)) (by rfl) c.g_isinstance (by rfl) c.g_bool (by decide +kernel))) (mw_or1 (mt_val (me_isi (T := .bool) (me_var (i := 1)) (by rfl) c.g_isinstance (by rfl) c.g_bool (by decide +kernel)))))) (mss_one (ms_ret (me_and (me_isi (T := .bool) (me_var (i := 0)) (by rfl) c.g_isinstance (by rfl) c.g_bool (by decide +kernel)) (me_and (me_isi (T := .bool) (me_var (i := 1)) (by rfl) c.g_isinstance (by rfl) c.g_bool (by decide +kernel)) (me_one (me_eq hr.units (me_var (i := 0)) (me_var (i := 1)))))))) mss_nil) (mss_cons (ms_if (mt_w (mw_or (mt_w (mw_and (mt_val (me_isi (T := .int) (me_var (i := 0)) (by rfl) c.g_isinstance (by rfl) c.g_int (by decide +kernel))) (mw_and1 (mt_val (me_isi (T := .int) (me_var (i := 1)) (by rfl) c.g_isinstance (by rfl) c.g_int (by decide +kernel)))))) (mw_or1 (mt_w (mw_and (mt_val (me_isi (T := .str) (me_var (i := 0)) (by rfl) c.g_isinstance (by rfl) c.g_str (by decide +kernel))) (mw_and1 (mt_val (me_isi (T := .str) (me_var (i := 1)) (by rfl) c.g_isinstance (by rfl) c.g_str (by decide +kernel))))))))) (mss_one (ms_ret (me_eq hr.units (me_var (i := 0)) (me_var (i := 1))))) mss_nil) (mss_one (ms_ret (me_and (me_isN (me_var (i := 0))) (me_one (me_isN (me_var (i := 1))))))))))
theorem sc__law_rules : FnScope ["tape", "stops", "endings", "word", "ending"] ["tape"] (defScope (tp 31)) := sc_of (by decide +kernel)
def c__law_rules_1 : S → Res Bool := (mBl (mBin (opEq false) (mCall f__law_take (mACons (mVar 0) (mACons (mC (.int 2)) mANil))) (mC (.int 0))))
def c__law_rules_2 : S → Res Bool := (mBl (mBin (opEq false) (mCall f__law_take (mACons (mVar 0) (mACons (mC (.int 2)) mANil))) (mC (.int 0))))
def b__law_rules : S → Res Out := (mSeq (mSet 1 (mFn1 fTuple (mComp [3] (iSeq (mTup (mACons (mC (.str "a")) (mACons (mC (.str "of")) (mACons (mC (.str "the")) mANil))))) (tgName 3) c__law_rules_2 (mVar 3)))) (mSeq (mSet 2 (mFn1 fTuple (mComp [4] (iSeq (mTup (mACons (mTup (mACons (mC (.str "ing")) (mACons (mC (.str "")) (mACons (mC (.int 3)) mANil)))) (mACons (mTup (mACons (mC (.str "ies")) (mACons (mC (.str "y")) (mACons (mC (.int 1)) mANil)))) (mACons (mTup (mACons (mC (.str "s")) (mACons (mC (.str "")) (mACons (mC (.int 2)) mANil)))) mANil))))) (tgName 4) c__law_rules_1 (mVar 4)))) (mRet (mTup (mACons (mVar 1) (mACons (mVar 2) mANil))))))
def f__law_rules : Fm := mDef 1 5 b__law_rules
theorem F__law_rules (c : Fx P K mg) : FnM P w K mg base 3 "_law_rules" ["tape"] f__law_rules := by
  refine fnM (N := ["tape", "stops", "endings", "word", "ending"]) (m := b__law_rules) c.d__law_rules sc__law_rules (by decide) (fun _ _ _ _ _ _ us hl => match us, hl with | [_], _ => rfl) fun f cdv A outer s H E hr => ?_
  have nd := (sc__law_rules).nd
  exact (mss_cons (ms_set (i := 1) (me_tuple (me_comp (by rfl) nd (mi_seq (me_tup (ma_cons me_str (ma_cons me_str (ma_cons me_str ma_nil))))) (blk_of (own := [("word", 3)]) (by rfl)) mgk_name (by decide) (fun _ _ _ _ _ => (mg_name nd).pg) (fun _ _ _ _ _ => (mts_one (mt_cmp (op_eqM hr.units) os_eq (me_fn (F__law_take c) hr (by decide) (by rfl) takesB (ma_cons (me_var (i := 0)) (ma_cons me_int ma_nil))) me_int (nomark _)))) (fun _ _ _ _ _ => (me_var (i := 3)))) (by rfl) c.g_tuple) nd) (mss_cons (ms_set (i := 2) (me_tuple (me_comp (by rfl) nd (mi_seq (me_tup (ma_cons (me_tup (ma_cons me_str (ma_cons me_str (ma_cons me_int ma_nil)))) (ma_cons (me_tup (ma_cons me_str (ma_cons me_str (ma_cons me_int ma_nil)))) (ma_cons (me_tup (ma_cons me_str (ma_cons me_str (ma_cons me_int ma_nil)))) ma_nil))))) (blk_of (own := [("ending", 4)]) (by rfl)) mgk_name (by decide) (fun _ _ _ _ _ => (mg_name nd).pg) (fun _ _ _ _ _ => (mts_one (mt_cmp (op_eqM hr.units) os_eq (me_fn (F__law_take c) hr (by decide) (by rfl) takesB (ma_cons (me_var (i := 0)) (ma_cons me_int ma_nil))) me_int (nomark _)))) (fun _ _ _ _ _ => (me_var (i := 4)))) (by rfl) c.g_tuple) nd) (mss_one (ms_ret (me_tup (ma_cons (me_var (i := 1)) (ma_cons (me_var (i := 2)) ma_nil)))))))
theorem sc__law_word : FnScope ["tape"] ["tape"] (defScope (tp 32)) := sc_of (by decide +kernel)
def b__law_word : S → Res Out := (mRet (mBin opIx (mLst (mACons (mC (.str "cat")) (mACons (mC (.str "cats")) (mACons (mC (.str "dog")) (mACons (mC (.str "dogs")) (mACons (mC (.str "run")) (mACons (mC (.str "a")) (mACons (mC (.str "the")) (mACons (mC (.str "x2")) mANil))))))))) (mCall f__law_take (mACons (mVar 0) (mACons (mC (.int 8)) mANil)))))
def f__law_word : Fm := mDef 1 1 b__law_word
theorem F__law_word (c : Fx P K mg) : FnM P w K mg base 3 "_law_word" ["tape"] f__law_word := by
  refine fnM (N := ["tape"]) (m := b__law_word) c.d__law_word sc__law_word (by decide) (fun _ _ _ _ _ _ us hl => match us, hl with | [_], _ => rfl) fun f cdv A outer s H E hr => ?_
  have nd := (sc__law_word).nd
  exact (mss_one (ms_ret (me_ix (me_lst (ma_cons me_str (ma_cons me_str (ma_cons me_str (ma_cons me_str (ma_cons me_str (ma_cons me_str (ma_cons me_str (ma_cons me_str ma_nil))))))))) (me_fn (F__law_take c) hr (by decide) (by rfl) takesC (ma_cons (me_var (i := 0)) (ma_cons me_int ma_nil))))))
theorem sc__law_term : FnScope ["rules", "word", "ending", "other", "least"] ["rules", "word"] (defScope (tp 33)) := sc_of (by decide +kernel)
def l__law_term_1 : S → Res Out := (mIfS (mAndT (mBl (mBin opGe (mFn1 fLen (mVar 1)) (mBin opAdd (mFn1 fLen (mVar 2)) (mVar 4)))) (mBl (mBin (opEq false) (mSlice (mVar 1) (mPart (mBin opSub (mFn1 fLen (mVar 1)) (mFn1 fLen (mVar 2)))) mNoPart) (mVar 2)))) (mRet (mBin opAdd (mSlice (mVar 1) mNoPart (mPart (mBin opSub (mFn1 fLen (mVar 1)) (mFn1 fLen (mVar 2))))) (mVar 3))) mNx)
def b__law_term : S → Res Out := (mSeq (mIfS (mBl (mBin (opIn false) (mVar 1) (mBin opIx (mVar 0) (mC (.int 0))))) (mRet (mC .non)) mNx) (mSeq (mFor (iSeq (mBin opIx (mVar 0) (mC (.int 1)))) (tgTup [2, 3, 4]) l__law_term_1) (mRet (mVar 1))))
def f__law_term : Fm := mDef 2 5 b__law_term
theorem F__law_term (c : Fx P K mg) : FnM P w K mg base 1 "_law_term" ["rules", "word"] f__law_term := by
  refine fnM (N := ["rules", "word", "ending", "other", "least"]) (m := b__law_term) c.d__law_term sc__law_term (by decide) (fun _ _ _ _ _ _ us hl => match us, hl with | [_, _], _ => rfl) fun f cdv A outer s H E hr => ?_
  have nd := (sc__law_term).nd
  exact (mss_cons (ms_if (mt_cmp (op_inM hr.units) os_in (me_var (i := 1)) (me_ix (me_var (i := 0)) me_int) (by rfl)) (mss_one (ms_ret me_non)) mss_nil) (mss_cons (ms_for owns (by rfl) (mi_seq (me_ix (me_var (i := 0)) me_int)) (mg_tup (by rfl) (mgs_cons (i := 2) (mgs_cons (i := 3) (mgs_cons (i := 4) mgs_nil nd) nd) nd)) (mss_one (ms_if (mt_w (mw_and (mt_cmp or_ge os_ge (me_len (me_var (i := 1)) (by rfl) c.g_len) (me_add (me_len (me_var (i := 2)) (by rfl) c.g_len) (me_var (i := 4))) (nomark _)) (mw_and1 (mt_cmp (op_eqM hr.units) os_eq (me_slice (me_var (i := 1)) (mo_some (me_sub (me_len (me_var (i := 1)) (by rfl) c.g_len) (me_len (me_var (i := 2)) (by rfl) c.g_len))) mo_none) (me_var (i := 2)) (nomark _))))) (mss_one (ms_ret (me_add (me_slice (me_var (i := 1)) mo_none (mo_some (me_sub (me_len (me_var (i := 1)) (by rfl) c.g_len) (me_len (me_var (i := 2)) (by rfl) c.g_len)))) (me_var (i := 3))))) mss_nil))) (mss_one (ms_ret (me_var (i := 1))))))
theorem sc__law_spoilt : FnScope ["tape", "value", "rows", "at"] ["tape", "value"] (defScope (tp 34)) := sc_of (by decide +kernel)
def b__law_spoilt (fself : Fm) : S → Res Out := (mSeq (mIfS (mAndT (mTru (mFn1 (fIsi .tup) (mVar 1))) (mAndT (mBl (mBin opGt (mFn1 fLen (mVar 1)) (mC (.int 0)))) (mBl (mBin opGt (mCall f__law_take (mACons (mVar 0) (mACons (mC (.int 4)) mANil))) (mC (.int 0)))))) (mSeq (mSet 3 (mCall f__law_take (mACons (mVar 0) (mACons (mFn1 fLen (mVar 1)) mANil)))) (mSeq (mIfS (mBl (mBin (opEq false) (mCall f__law_take (mACons (mVar 0) (mACons (mC (.int 8)) mANil))) (mC (.int 0)))) (mRet (mBin opAdd (mSlice (mVar 1) mNoPart (mPart (mVar 3))) (mSlice (mVar 1) (mPart (mBin opAdd (mVar 3) (mC (.int 1)))) mNoPart))) mNx) (mRet (mBin opAdd (mBin opAdd (mSlice (mVar 1) mNoPart (mPart (mVar 3))) (mTup (mACons (mCall fself (mACons (mVar 0) (mACons (mBin opIx (mVar 1) (mVar 3)) mANil))) mANil))) (mSlice (mVar 1) (mPart (mBin opAdd (mVar 3) (mC (.int 1)))) mNoPart))))) mNx) (mSeq (mSet 2 (mLst (mACons (mC .non) (mACons (mTup mANil) (mACons (mC (.int 0)) (mACons (mC (.int 1)) (mACons (mC (.bl true)) (mACons (mC (.bl false)) (mACons (mC (.str "a")) (mACons (mFn1 fNeg (mC (.int 1))) (mACons (mTup (mACons (mC (.int 0)) mANil)) (mACons (mTup (mACons (mTup (mACons (mC (.int 0)) (mACons (mC (.int 0)) mANil))) mANil)) mANil)))))))))))) (mSeq (mIfS (mTru (mFn1 (fIsi .int) (mVar 1))) (mSet 2 (mBin opAdd (mVar 2) (mLst (mACons (mBin opAdd (mVar 1) (mC (.int 1))) (mACons (mBin opSub (mVar 1) (mC (.int 1))) (mACons (mBin (opEq false) (mVar 1) (mC (.int 1))) (mACons (mBin opAdd (mVar 1) (mC (.int 1))) mANil))))))) mNx) (mSeq (mIfS (mTru (mFn1 (fIsi .tup) (mVar 1))) (mSet 2 (mBin opAdd (mVar 2) (mLst (mACons (mSlice (mVar 1) mNoPart (mPart (mFn1 fNeg (mC (.int 1))))) (mACons (mBin opAdd (mVar 1) (mSlice (mVar 1) (mPart (mFn1 fNeg (mC (.int 1)))) mNoPart)) (mACons (mBin opRev (mVar 1) (mFn1 fNeg (mC (.int 1)))) (mACons (mBin opAdd (mVar 1) (mTup (mACons (mTup (mACons (mC (.int 0)) (mACons (mC (.int 0)) mANil))) mANil))) (mACons (mTup (mACons (mVar 1) mANil)) (mACons (mSlice (mVar 1) (mPart (mC (.int 1))) mNoPart) mANil))))))))) mNx) (mRet (mBin opIx (mVar 2) (mCall f__law_take (mACons (mVar 0) (mACons (mFn1 fLen (mVar 2)) mANil)))))))))
def f__law_spoilt : Nat → Fm
  | 0 => mDef 2 4 fun _ => .stuck
  | k + 1 => mDef 2 4 (b__law_spoilt (f__law_spoilt k))
theorem F__law_spoilt (c : Fx P K mg) : ∀ k : Nat, FnM P w K mg base (2 + k) "_law_spoilt" ["tape", "value"] (f__law_spoilt k)
  | 0 => fnM (N := ["tape", "value", "rows", "at"]) (k := 1) c.d__law_spoilt sc__law_spoilt (by decide) (fun _ _ _ _ _ _ us hl => match us, hl with | [_, _], _ => rfl) fun f cdv A outer s H E hr => mss_stuck
  | k + 1 => by
    have Fself := F__law_spoilt c k
    refine fnM (N := ["tape", "value", "rows", "at"]) (k := 2 + k) (m := b__law_spoilt (f__law_spoilt k)) c.d__law_spoilt sc__law_spoilt (by decide) (fun _ _ _ _ _ _ us hl => match us, hl with | [_, _], _ => rfl) fun f cdv A outer s H E hr => ?_
    have nd := (sc__law_spoilt).nd
    exact (mss_cons (ms_if (mt_w (mw_and (mt_val (me_isi (T := .tup) (me_var (i := 1)) (by rfl) c.g_isinstance (by rfl) c.g_tuple (by decide +kernel))) (mw_and (mt_cmp or_gt os_gt (me_len (me_var (i := 1)) (by rfl) c.g_len) me_int (nomark _)) (mw_and1 (mt_cmp or_gt os_gt (me_fn (F__law_take c) hr (by omega) (by rfl) takesC (ma_cons (me_var (i := 0)) (ma_cons me_int ma_nil))) me_int (nomark _)))))) (mss_cons (ms_set (i := 3) (me_fn (F__law_take c) hr (by omega) (by rfl) takesC (ma_cons (me_var (i := 0)) (ma_cons (me_len (me_var (i := 1)) (by rfl) c.g_len) ma_nil))) nd) (mss_cons (ms_if (mt_cmp (op_eqM hr.units) os_eq (me_fn (F__law_take c) hr (by omega) (by rfl) takesC (ma_cons (me_var (i := 0)) (ma_cons me_int ma_nil))) me_int (nomark _)) (mss_one (ms_ret (me_add (me_slice (me_var (i := 1)) mo_none (mo_some (me_var (i := 3)))) (me_slice (me_var (i := 1)) (mo_some (me_add (me_var (i := 3)) me_int)) mo_none)))) mss_nil) (mss_one (ms_ret (me_add (me_add (me_slice (me_var (i := 1)) mo_none (mo_some (me_var (i := 3)))) (me_tup (ma_cons (me_fn Fself hr (by omega) (by rfl) takesC (ma_cons (me_var (i := 0)) (ma_cons (me_ix (me_var (i := 1)) (me_var (i := 3))) ma_nil))) ma_nil))) (me_slice (me_var (i := 1)) (mo_some (me_add (me_var (i := 3)) me_int)) mo_none)))))) mss_nil) (mss_cons (ms_set (i := 2) (me_lst (ma_cons me_non (ma_cons (me_tup ma_nil) (ma_cons me_int (ma_cons me_int (ma_cons me_bl (ma_cons me_bl (ma_cons me_str (ma_cons (me_neg me_int) (ma_cons (me_tup (ma_cons me_int ma_nil)) (ma_cons (me_tup (ma_cons (me_tup (ma_cons me_int (ma_cons me_int ma_nil))) ma_nil)) ma_nil))))))))))) nd) (mss_cons (ms_if (mt_val (me_isi (T := .int) (me_var (i := 1)) (by rfl) c.g_isinstance (by rfl) c.g_int (by decide +kernel))) (mss_one (ms_set (i := 2) (me_add (me_var (i := 2)) (me_lst (ma_cons (me_add (me_var (i := 1)) me_int) (ma_cons (me_sub (me_var (i := 1)) me_int) (ma_cons (me_eq hr.units (me_var (i := 1)) me_int) (ma_cons (me_add (me_var (i := 1)) me_int) ma_nil)))))) nd)) mss_nil) (mss_cons (ms_if (mt_val (me_isi (T := .tup) (me_var (i := 1)) (by rfl) c.g_isinstance (by rfl) c.g_tuple (by decide +kernel))) (mss_one (ms_set (i := 2) (me_add (me_var (i := 2)) (me_lst (ma_cons (me_slice (me_var (i := 1)) mo_none (mo_some (me_neg me_int))) (ma_cons (me_add (me_var (i := 1)) (me_slice (me_var (i := 1)) (mo_some (me_neg me_int)) mo_none)) (ma_cons (me_rev (me_var (i := 1)) (me_neg me_int)) (ma_cons (me_add (me_var (i := 1)) (me_tup (ma_cons (me_tup (ma_cons me_int (ma_cons me_int ma_nil))) ma_nil))) (ma_cons (me_tup (ma_cons (me_var (i := 1)) ma_nil)) (ma_cons (me_slice (me_var (i := 1)) (mo_some me_int) mo_none) ma_nil)))))))) nd)) mss_nil) (mss_one (ms_ret (me_ix (me_var (i := 2)) (me_fn (F__law_take c) hr (by omega) (by rfl) takesC (ma_cons (me_var (i := 0)) (ma_cons (me_len (me_var (i := 2)) (by rfl) c.g_len) ma_nil))))))))))
theorem sc__law_low : FnScope ["p", "q", "a", "b"] ["p", "q"] (defScope (tp 35)) := sc_of (by decide +kernel)
def t__law_low_1 : S → Res Bool := (mBl (mBin opGt (mVar 3) (mC (.int 0))))
def l__law_low_2 : S → Res Out := (mParN [2, 3] (mRCons (mVar 3) (mRCons (mBin opSub (mVar 2) (mBin opMul (mBin opFdiv (mVar 2) (mVar 3)) (mVar 3))) mRNil)))
def b__law_low : S → Res Out := (mSeq (mParN [2, 3] (mRCons (mFn1 fAbs (mVar 0)) (mRCons (mVar 1) mRNil))) (mSeq (mWhile t__law_low_1 l__law_low_2) (mRet (mTup (mACons (mBin opFdiv (mVar 0) (mVar 2)) (mACons (mBin opFdiv (mVar 1) (mVar 2)) mANil))))))
def f__law_low : Fm := mDef 2 4 b__law_low
theorem F__law_low (c : Fx P K mg) : FnM P w K mg base 1 "_law_low" ["p", "q"] f__law_low := by
  refine fnM (N := ["p", "q", "a", "b"]) (m := b__law_low) c.d__law_low sc__law_low (by decide) (fun _ _ _ _ _ _ us hl => match us, hl with | [_, _], _ => rfl) fun f cdv A outer s H E hr => ?_
  have nd := (sc__law_low).nd
  exact (mss_cons (ms_par (i := 2) (j := 3) (by rfl) nd (mr_cons (me_abs (me_var (i := 0)) (by rfl) c.g_abs) (mr_cons (me_var (i := 1)) mr_nil))) (mss_cons (ms_while owns (mt_cmp or_gt os_gt (me_var (i := 3)) me_int (nomark _)) (mss_one (ms_par (i := 2) (j := 3) (by rfl) nd (mr_cons (me_var (i := 3)) (mr_cons (me_sub (me_var (i := 2)) (me_mul (me_fdiv (me_var (i := 2)) (me_var (i := 3))) (me_var (i := 3)))) mr_nil))))) (mss_one (ms_ret (me_tup (ma_cons (me_fdiv (me_var (i := 0)) (me_var (i := 2))) (ma_cons (me_fdiv (me_var (i := 1)) (me_var (i := 2))) ma_nil)))))))
theorem sc__law_is_word : FnScope ["value", "sign"] ["value"] (defScope (tp 36)) := sc_of (by decide +kernel)
def e__law_is_word_1 : M := (mBin (opInC false) (mVar 1) (mC (.str "abcdefghijklmnopqrstuvwxyz0123456789")))
def b__law_is_word : S → Res Out := (mRet (mAndV (mFn1 (fIsi .str) (mVar 0)) (mAndV (mChain opLe opLe (mC (.int 1)) (mFn1 fLen (mVar 0)) (mC (.int 20))) (mFn1 fAll (mComp [1] (iStrM (mVar 0)) (tgName 1) mYes e__law_is_word_1)))))
def f__law_is_word : Fm := mDef 1 2 b__law_is_word
theorem F__law_is_word (c : Fx P K mg) : FnM P w K mg base 1 "_law_is_word" ["value"] f__law_is_word := by
  refine fnM (N := ["value", "sign"]) (m := b__law_is_word) c.d__law_is_word sc__law_is_word (by decide) (fun _ _ _ _ _ _ us hl => match us, hl with | [_], _ => rfl) fun f cdv A outer s H E hr => ?_
  have nd := (sc__law_is_word).nd
  exact (mss_one (ms_ret (me_and (me_isi (T := .str) (me_var (i := 0)) (by rfl) c.g_isinstance (by rfl) c.g_str (by decide +kernel)) (me_and (me_chain or_le or_le os_le os_le me_int (me_len (me_var (i := 0)) (by rfl) c.g_len) me_int) (me_one (me_all (by rfl) (me_comp (by rfl) nd (mi_str (me_var (i := 0))) (blk_of (own := [("sign", 1)]) (by rfl)) mgk_name (by decide) (fun _ _ _ _ _ => (mg_name nd).pg) (fun _ _ _ _ _ => mts_nil) (fun _ _ _ _ _ => (me_inC (me_var (i := 1)) me_str (by rfl)))) (by rfl) c.g_all))))))
theorem sc_law : FnScope ["script", "tape", "turn", "many", "length", "total", "due", "part", "term", "rules", "wishes", "eight", "values", "value", "having", "count", "terms", "p", "q", "weights", "counts", "fine", "a", "b", "k", "word"] ["script"] (defScope (tp 37)) := sc_of (by decide +kernel)
def e_law_1 : M := (mCall (f__law_spoilt 4) (mACons (mVar 1) (mACons (mVar 10) mANil)))
def e_law_2 : M := (mCall f__law_is_word (mACons (mVar 25) mANil))
def l_law_3 : S → Res Out := (mSeq (mSet 21 (mAndV (mFn1 (fIsi .tup) (mVar 13)) (mAndV (mBin opLe (mFn1 fLen (mVar 13)) (mC (.int 8))) (mFn1 fAll (mComp [25] (iSeq (mVar 13)) (tgName 25) mYes e_law_2))))) (mIfS (mNotT (mTru (mCall (f__law_same 6) (mACons (mCall f_are_wishes (mACons (mVar 13) mANil)) (mACons (mAndV (mVar 21) (mBin (opEq false) (mFn1 fList (mVar 13)) (mFn1 fSortedSetT (mVar 13)))) mANil))))) (mRet (mC (.bl false))) mNx))
def c_law_4 : S → Res Bool := (mBl (mBin (opIsN true) (mCall f__law_term (mACons (mVar 9) (mACons (mVar 25) mANil))) (mC .non)))
def e_law_5 : M := (mCall f__law_term (mACons (mVar 9) (mACons (mVar 25) mANil)))
def e_law_6 : M := (mCall f__law_word (mACons (mVar 1) mANil))
def l_law_7 : S → Res Out := (mSeq (mParN [14, 15] (mRCons (mCall f__law_take (mACons (mVar 1) (mACons (mBin opAdd (mVar 3) (mC (.int 1))) mANil))) (mRCons (mCall f__law_take (mACons (mVar 1) (mACons (mFn2 minI (mACons (mC (.int 4)) (mACons (mBin opAdd (mVar 4) (mC (.int 1))) mANil))) mANil))) mRNil))) (mSeq (mDPut (mCall f__law_low (mACons (mBin opAdd (mVar 3) (mC (.int 1))) (mACons (mBin opAdd (mVar 14) (mC (.int 1))) mANil))) (mVar 19) (mVar 8)) (mSeq (mIfS (mOrT (mBl (mBin opGt (mVar 15) (mC (.int 0)))) (mBl (mBin (opEq false) (mCall f__law_take (mACons (mVar 1) (mACons (mC (.int 2)) mANil))) (mC (.int 0))))) (mDPut (mVar 15) (mVar 20) (mVar 8)) mNx) (mSeq (mParN [22, 23] (mRCons (mBin opMul (mBin opMul (mBin opMul (mBin opAdd (mVar 3) (mC (.int 1))) (mC (.int 4))) (mVar 15)) (mVar 5)) (mRCons (mBin opMul (mBin opAdd (mVar 14) (mC (.int 1))) (mBin opAdd (mBin opAdd (mBin opMul (mBin opMul (mC (.int 2)) (mVar 15)) (mVar 5)) (mVar 5)) (mBin opMul (mVar 4) (mVar 3)))) mRNil))) (mUnp [17, 18] (mCall f__law_low (mACons (mBin opAdd (mBin opMul (mVar 17) (mVar 23)) (mBin opMul (mVar 22) (mVar 18))) (mACons (mBin opMul (mVar 18) (mVar 23)) mANil))))))))
def l_law_8 : S → Res Out := (mSeq (mSet 3 (mBin opAdd (mC (.int 1)) (mCall f__law_take (mACons (mVar 1) (mACons (mBin opIx (mLst (mACons (mC (.int 5)) (mACons (mBin opPow (mC (.int 10)) (mC (.int 6))) mANil))) (mCall f__law_take (mACons (mVar 1) (mACons (mC (.int 2)) mANil)))) mANil))))) (mSeq (mSet 4 (mBin opAdd (mC (.int 1)) (mCall f__law_take (mACons (mVar 1) (mACons (mBin opIx (mLst (mACons (mC (.int 12)) (mACons (mC (.int 400)) mANil))) (mCall f__law_take (mACons (mVar 1) (mACons (mC (.int 2)) mANil)))) mANil))))) (mSeq (mSet 5 (mBin opAdd (mVar 4) (mCall f__law_take (mACons (mVar 1) (mACons (mBin opIx (mLst (mACons (mC (.int 40)) (mACons (mBin opPow (mC (.int 10)) (mC (.int 7))) mANil))) (mCall f__law_take (mACons (mVar 1) (mACons (mC (.int 2)) mANil)))) mANil))))) (mSeq (mParN [14, 15] (mRCons (mCall f__law_take (mACons (mVar 1) (mACons (mBin opAdd (mVar 3) (mC (.int 1))) mANil))) (mRCons (mCall f__law_take (mACons (mVar 1) (mACons (mBin opAdd (mVar 4) (mC (.int 1))) mANil))) mRNil))) (mSeq (mSet 6 (mCall f__law_low (mACons (mBin opMul (mBin opMul (mC (.int 4)) (mVar 15)) (mVar 5)) (mACons (mBin opAdd (mBin opAdd (mBin opMul (mBin opMul (mC (.int 2)) (mVar 15)) (mVar 5)) (mVar 5)) (mBin opMul (mVar 4) (mVar 3))) mANil)))) (mSeq (mSet 7 (mCall f_part_of (mACons (mVar 3) (mACons (mVar 5) (mACons (mVar 15) (mACons (mVar 4) mANil)))))) (mSeq (mIfS (mOrT (mNotT (mTru (mCall (f__law_same 6) (mACons (mTup (mACons (mCall f_weight_of (mACons (mVar 3) (mACons (mVar 14) mANil))) (mACons (mVar 7) mANil))) (mACons (mTup (mACons (mCall f__law_low (mACons (mBin opAdd (mVar 3) (mC (.int 1))) (mACons (mBin opAdd (mVar 14) (mC (.int 1))) mANil))) (mACons (mVar 6) mANil))) mANil))))) (mBl (mBin (opIsB true) (mCall f_is_ratio (mACons (mVar 7) mANil)) (mC (.bl true))))) (mRet (mC (.bl false))) mNx) (mSeq (mIfS (mOrT (mNotT (mTru (mCall f_is_below (mACons (mVar 7) (mACons (mCall f_part_of (mACons (mVar 3) (mACons (mVar 5) (mACons (mBin opAdd (mVar 15) (mC (.int 1))) (mACons (mVar 4) mANil))))) mANil))))) (mOrT (mAndT (mBl (mBin opGt (mVar 15) (mC (.int 0)))) (mNotT (mTru (mCall f_is_below (mACons (mCall f_part_of (mACons (mVar 3) (mACons (mVar 5) (mACons (mVar 15) (mACons (mBin opAdd (mVar 4) (mC (.int 1))) mANil))))) (mACons (mVar 7) mANil)))))) (mBl (mBin opGe (mBin opIx (mVar 7) (mC (.int 0))) (mBin opMul (mC (.int 2)) (mBin opIx (mVar 7) (mC (.int 1)))))))) (mRet (mC (.bl false))) mNx) (mSeq (mParN [16, 17, 18, 19, 20] (mRCons (mLst (mACons (mC (.str "cat")) (mACons (mC (.str "dog")) (mACons (mC (.str "run")) (mACons (mC (.str "x2")) mANil))))) (mRCons (mC (.int 0)) (mRCons (mC (.int 1)) (mRCons mDNew (mRCons mDNew mRNil)))))) (mSeq (mFor (iSeq (mSlice (mVar 16) mNoPart (mPart (mBin opAdd (mC (.int 1)) (mCall f__law_take (mACons (mVar 1) (mACons (mC (.int 4)) mANil))))))) (tgName 8) l_law_7) (mSeq (mDPut (mC (.int 3)) (mVar 20) (mC (.str "zoe"))) (mSeq (mIfS (mNotT (mTru (mCall (f__law_same 6) (mACons (mCall f_score_of (mACons (mVar 3) (mACons (mVar 5) (mACons (mDCopy (mVar 19)) (mACons (mDCopy (mVar 20)) (mACons (mVar 4) mANil)))))) (mACons (mTup (mACons (mVar 17) (mACons (mVar 18) mANil))) mANil))))) (mRet (mC (.bl false))) mNx) (mSeq (mSet 9 (mCall f__law_rules (mACons (mVar 1) mANil))) (mSeq (mSet 10 (mFn1 fTuple (mFn1 fSortedSet (mComp [24] (iRange1 (mACons (mCall f__law_take (mACons (mVar 1) (mACons (mC (.int 9)) mANil))) mANil)) (tgName 24) mYes e_law_6)))) (mSeq (mSet 6 (mFn1 fSortedSet (mComp [25] (iSeq (mVar 10)) (tgName 25) c_law_4 e_law_5))) (mSeq (mIfS (mNotT (mTru (mCall (f__law_same 6) (mACons (mCall f_wish_terms (mACons (mVar 9) (mACons (mVar 10) mANil))) (mACons (mFn1 fTuple (mVar 6)) mANil))))) (mRet (mC (.bl false))) mNx) (mSeq (mSet 11 (mTup (mACons (mC (.str "a")) (mACons (mC (.str "b")) (mACons (mC (.str "c")) (mACons (mC (.str "d")) (mACons (mC (.str "e")) (mACons (mC (.str "f")) (mACons (mC (.str "g")) (mACons (mC (.str "h")) mANil)))))))))) (mSeq (mSet 12 (mLst (mACons (mVar 10) (mACons (mBin opRev (mVar 10) (mFn1 fNeg (mC (.int 1)))) (mACons (mBin opAdd (mVar 10) (mSlice (mVar 10) (mPart (mFn1 fNeg (mC (.int 1)))) mNoPart)) (mACons (mVar 11) (mACons (mBin opAdd (mVar 11) (mTup (mACons (mC (.str "i")) mANil))) (mACons (mTup (mACons (mC (.str "A")) mANil)) (mACons (mTup (mACons (mC (.str "")) mANil)) (mACons (mTup (mACons (mC (.str "a b")) mANil)) (mACons (mTup (mACons (mBin opMul (mC (.str "a")) (mC (.int 20))) mANil)) (mACons (mTup (mACons (mBin opMul (mC (.str "a")) (mC (.int 21))) mANil)) (mACons (mTup (mACons (mC (.int 1)) mANil)) (mACons (mC .non) (mACons (mC (.str "a")) mANil))))))))))))))) (mFor (iSeq (mBin opAdd (mBin opAdd (mVar 12) (mLst (mACons (mTup mANil) mANil))) (mComp [24] (iRange1 (mACons (mC (.int 3)) mANil)) (tgName 24) mYes e_law_1))) (tgName 13) l_law_3)))))))))))))))))))
def b_law : S → Res Out := (mSeq (mSet 1 (mCall f__law_tape (mACons (mVar 0) mANil))) (mSeq (mIfS (mOrT (mBl (mBin (opEq true) (mCall f_weight_of (mACons (mC (.int 9)) (mACons (mC (.int 4)) mANil))) (mTup (mACons (mC (.int 2)) (mACons (mC (.int 1)) mANil))))) (mOrT (mBl (mBin (opEq true) (mCall f_part_of (mACons (mC (.int 2)) (mACons (mC (.int 10)) (mACons (mC (.int 1)) (mACons (mC (.int 5)) mANil))))) (mTup (mACons (mC (.int 1)) (mACons (mC (.int 1)) mANil))))) (mOrT (mBl (mBin (opEq true) (mCall f_part_of (mACons (mC (.int 3)) (mACons (mC (.int 0)) (mACons (mC (.int 0)) (mACons (mC (.int 0)) mANil))))) (mTup (mACons (mC (.int 0)) (mACons (mC (.int 1)) mANil))))) (mBl (mBin (opEq true) (mC (.int 8)) (mC (.int 8))))))) (mRet (mC (.bl false))) mNx) (mSeq (mIfS (mOrT (mBl (mBin (opEq true) (mCall f_score_of (mACons (mC (.int 2)) (mACons (mC (.int 10)) (mACons (mDisp (mPCons (mC (.str "cat")) (mTup (mACons (mC (.int 2)) (mACons (mC (.int 1)) mANil))) (mPCons (mC (.str "dog")) (mTup (mACons (mC (.int 1)) (mACons (mC (.int 2)) mANil))) mPNil))) (mACons (mDisp (mPCons (mC (.str "cat")) (mC (.int 1)) (mPCons (mC (.str "ran")) (mC (.int 3)) mPNil))) (mACons (mC (.int 5)) mANil)))))) (mTup (mACons (mC (.int 2)) (mACons (mC (.int 1)) mANil))))) (mBl (mBin (opEq true) (mCall f_wish_terms (mACons (mTup (mACons (mTup (mACons (mC (.str "the")) mANil)) (mACons (mTup (mACons (mTup (mACons (mC (.str "s")) (mACons (mC (.str "")) (mACons (mC (.int 2)) mANil)))) mANil)) mANil))) (mACons (mTup (mACons (mC (.str "cat")) (mACons (mC (.str "cats")) (mACons (mC (.str "the")) mANil)))) mANil))) (mTup (mACons (mC (.str "cat")) mANil))))) (mRet (mC (.bl false))) mNx) (mSeq (mFor (iRange1 (mACons (mC (.int 4)) mANil)) (tgName 2) l_law_8) (mRet (mC (.bl true)))))))
def f_law : Fm := mDef 1 26 b_law
theorem F_law (c : Fx P K mg) : FnM P w K mg base 8 "law" ["script"] f_law := by
  refine fnM (N := ["script", "tape", "turn", "many", "length", "total", "due", "part", "term", "rules", "wishes", "eight", "values", "value", "having", "count", "terms", "p", "q", "weights", "counts", "fine", "a", "b", "k", "word"]) (m := b_law) c.d_law sc_law (by decide) (fun _ _ _ _ _ _ us hl => match us, hl with | [_], _ => rfl) fun f cdv A outer s H E hr => ?_
  have nd := (sc_law).nd
  exact (mss_cons (ms_set (i := 1) (me_fn (F__law_tape c) hr (by decide) (by rfl) takesC (ma_cons (me_var (i := 0)) ma_nil)) nd) (mss_cons (ms_if (mt_w (mw_or (mt_cmp (op_neM hr.units) os_eq (me_fn (F_weight_of c) hr (by decide) (by rfl) takesC (ma_cons me_int (ma_cons me_int ma_nil))) (me_tup (ma_cons me_int (ma_cons me_int ma_nil))) (nomark _)) (mw_or (mt_cmp (op_neM hr.units) os_eq (me_fn (F_part_of c) hr (by decide) (by rfl) takesC (ma_cons me_int (ma_cons me_int (ma_cons me_int (ma_cons me_int ma_nil))))) (me_tup (ma_cons me_int (ma_cons me_int ma_nil))) (nomark _)) (mw_or (mt_cmp (op_neM hr.units) os_eq (me_fn (F_part_of c) hr (by decide) (by rfl) takesC (ma_cons me_int (ma_cons me_int (ma_cons me_int (ma_cons me_int ma_nil))))) (me_tup (ma_cons me_int (ma_cons me_int ma_nil))) (nomark _)) (mw_or1 (mt_cmp (op_neM hr.units) os_eq (me_gint c.v_MOST_WISHES (by rfl)) me_int (nomark _))))))) (mss_one (ms_ret me_bl)) mss_nil) (mss_cons (ms_if (mt_w (mw_or (mt_cmp (op_neM hr.units) os_eq (me_fn (F_score_of c) hr (by decide) (by rfl) takesC (ma_cons me_int (ma_cons me_int (ma_cons (me_disp (mp_cons me_str (me_tup (ma_cons me_int (ma_cons me_int ma_nil))) (mp_cons me_str (me_tup (ma_cons me_int (ma_cons me_int ma_nil))) mp_nil))) (ma_cons (me_disp (mp_cons me_str me_int (mp_cons me_str me_int mp_nil))) (ma_cons me_int ma_nil)))))) (me_tup (ma_cons me_int (ma_cons me_int ma_nil))) (nomark _)) (mw_or1 (mt_cmp (op_neM hr.units) os_eq (me_fn (F_wish_terms c) hr (by decide) (by rfl) takesC (ma_cons (me_tup (ma_cons (me_tup (ma_cons me_str ma_nil)) (ma_cons (me_tup (ma_cons (me_tup (ma_cons me_str (ma_cons me_str (ma_cons me_int ma_nil)))) ma_nil)) ma_nil))) (ma_cons (me_tup (ma_cons me_str (ma_cons me_str (ma_cons me_str ma_nil)))) ma_nil))) (me_tup (ma_cons me_str ma_nil)) (nomark _))))) (mss_one (ms_ret me_bl)) mss_nil) (mss_cons (ms_for owns (by rfl) (mi_range1 (ma_cons me_int ma_nil) (by rfl) c.g_range) (mg_name nd) (mss_cons (ms_set (i := 3) (me_add me_int (me_fn (F__law_take c) hr (by decide) (by rfl) takesC (ma_cons (me_var (i := 1)) (ma_cons (me_ix (me_lst (ma_cons me_int (ma_cons (me_pow me_int me_int) ma_nil))) (me_fn (F__law_take c) hr (by decide) (by rfl) takesC (ma_cons (me_var (i := 1)) (ma_cons me_int ma_nil)))) ma_nil)))) nd) (mss_cons (ms_set (i := 4) (me_add me_int (me_fn (F__law_take c) hr (by decide) (by rfl) takesC (ma_cons (me_var (i := 1)) (ma_cons (me_ix (me_lst (ma_cons me_int (ma_cons me_int ma_nil))) (me_fn (F__law_take c) hr (by decide) (by rfl) takesC (ma_cons (me_var (i := 1)) (ma_cons me_int ma_nil)))) ma_nil)))) nd) (mss_cons (ms_set (i := 5) (me_add (me_var (i := 4)) (me_fn (F__law_take c) hr (by decide) (by rfl) takesC (ma_cons (me_var (i := 1)) (ma_cons (me_ix (me_lst (ma_cons me_int (ma_cons (me_pow me_int me_int) ma_nil))) (me_fn (F__law_take c) hr (by decide) (by rfl) takesC (ma_cons (me_var (i := 1)) (ma_cons me_int ma_nil)))) ma_nil)))) nd) (mss_cons (ms_par (i := 14) (j := 15) (by rfl) nd (mr_cons (me_fn (F__law_take c) hr (by decide) (by rfl) takesC (ma_cons (me_var (i := 1)) (ma_cons (me_add (me_var (i := 3)) me_int) ma_nil))) (mr_cons (me_fn (F__law_take c) hr (by decide) (by rfl) takesC (ma_cons (me_var (i := 1)) (ma_cons (me_add (me_var (i := 4)) me_int) ma_nil))) mr_nil))) (mss_cons (ms_set (i := 6) (me_fn (F__law_low c) hr (by decide) (by rfl) takesC (ma_cons (me_mul (me_mul me_int (me_var (i := 15))) (me_var (i := 5))) (ma_cons (me_add (me_add (me_mul (me_mul me_int (me_var (i := 15))) (me_var (i := 5))) (me_var (i := 5))) (me_mul (me_var (i := 4)) (me_var (i := 3)))) ma_nil))) nd) (mss_cons (ms_set (i := 7) (me_fn (F_part_of c) hr (by decide) (by rfl) takesC (ma_cons (me_var (i := 3)) (ma_cons (me_var (i := 5)) (ma_cons (me_var (i := 15)) (ma_cons (me_var (i := 4)) ma_nil))))) nd) (mss_cons (ms_if (mt_w (mw_or (mt_not (mt_val (me_fn (F__law_same c 6) hr (by decide) (by rfl) takesC (ma_cons (me_tup (ma_cons (me_fn (F_weight_of c) hr (by decide) (by rfl) takesC (ma_cons (me_var (i := 3)) (ma_cons (me_var (i := 14)) ma_nil))) (ma_cons (me_var (i := 7)) ma_nil))) (ma_cons (me_tup (ma_cons (me_fn (F__law_low c) hr (by decide) (by rfl) takesC (ma_cons (me_add (me_var (i := 3)) me_int) (ma_cons (me_add (me_var (i := 14)) me_int) ma_nil))) (ma_cons (me_var (i := 6)) ma_nil))) ma_nil))))) (mw_or1 (mt_cmp op_isnot_bl os_notB (me_fn (F_is_ratio c) hr (by decide) (by rfl) takesC (ma_cons (me_var (i := 7)) ma_nil)) me_bl (nomark _))))) (mss_one (ms_ret me_bl)) mss_nil) (mss_cons (ms_if (mt_w (mw_or (mt_not (mt_val (me_fn (F_is_below c) hr (by decide) (by rfl) takesC (ma_cons (me_var (i := 7)) (ma_cons (me_fn (F_part_of c) hr (by decide) (by rfl) takesC (ma_cons (me_var (i := 3)) (ma_cons (me_var (i := 5)) (ma_cons (me_add (me_var (i := 15)) me_int) (ma_cons (me_var (i := 4)) ma_nil))))) ma_nil))))) (mw_or (mt_w (mw_and (mt_cmp or_gt os_gt (me_var (i := 15)) me_int (nomark _)) (mw_and1 (mt_not (mt_val (me_fn (F_is_below c) hr (by decide) (by rfl) takesC (ma_cons (me_fn (F_part_of c) hr (by decide) (by rfl) takesC (ma_cons (me_var (i := 3)) (ma_cons (me_var (i := 5)) (ma_cons (me_var (i := 15)) (ma_cons (me_add (me_var (i := 4)) me_int) ma_nil))))) (ma_cons (me_var (i := 7)) ma_nil)))))))) (mw_or1 (mt_cmp or_ge os_ge (me_ix (me_var (i := 7)) me_int) (me_mul me_int (me_ix (me_var (i := 7)) me_int)) (nomark _)))))) (mss_one (ms_ret me_bl)) mss_nil) (mss_cons (ms_tupN (by rfl) (mr_cons (me_lst (ma_cons me_str (ma_cons me_str (ma_cons me_str (ma_cons me_str ma_nil))))) (mr_cons me_int (mr_cons me_int (mr_cons me_dnew (mr_cons me_dnew mr_nil))))) (mgs_cons (i := 16) (mgs_cons (i := 17) (mgs_cons (i := 18) (mgs_cons (i := 19) (mgs_cons (i := 20) mgs_nil nd) nd) nd) nd) nd) (by decide)) (mss_cons (ms_for owns (by rfl) (mi_seq (me_slice (me_var (i := 16)) mo_none (mo_some (me_add me_int (me_fn (F__law_take c) hr (by decide) (by rfl) takesC (ma_cons (me_var (i := 1)) (ma_cons me_int ma_nil))))))) (mg_name nd) (mss_cons (ms_par (i := 14) (j := 15) (by rfl) nd (mr_cons (me_fn (F__law_take c) hr (by decide) (by rfl) takesC (ma_cons (me_var (i := 1)) (ma_cons (me_add (me_var (i := 3)) me_int) ma_nil))) (mr_cons (me_fn (F__law_take c) hr (by decide) (by rfl) takesC (ma_cons (me_var (i := 1)) (ma_cons (me_min2 (by rfl) (ma_cons me_int (ma_cons (me_add (me_var (i := 4)) me_int) ma_nil)) (by rfl) c.g_min) ma_nil))) mr_nil))) (mss_cons (ms_dput hr.units (me_fn (F__law_low c) hr (by decide) (by rfl) takesC (ma_cons (me_add (me_var (i := 3)) me_int) (ma_cons (me_add (me_var (i := 14)) me_int) ma_nil))) (me_var (i := 19)) (me_var (i := 8))) (mss_cons (ms_if (mt_w (mw_or (mt_cmp or_gt os_gt (me_var (i := 15)) me_int (nomark _)) (mw_or1 (mt_cmp (op_eqM hr.units) os_eq (me_fn (F__law_take c) hr (by decide) (by rfl) takesC (ma_cons (me_var (i := 1)) (ma_cons me_int ma_nil))) me_int (nomark _))))) (mss_one (ms_dput hr.units (me_var (i := 15)) (me_var (i := 20)) (me_var (i := 8)))) mss_nil) (mss_cons (ms_par (i := 22) (j := 23) (by rfl) nd (mr_cons (me_mul (me_mul (me_mul (me_add (me_var (i := 3)) me_int) me_int) (me_var (i := 15))) (me_var (i := 5))) (mr_cons (me_mul (me_add (me_var (i := 14)) me_int) (me_add (me_add (me_mul (me_mul me_int (me_var (i := 15))) (me_var (i := 5))) (me_var (i := 5))) (me_mul (me_var (i := 4)) (me_var (i := 3))))) mr_nil))) (mss_one (ms_unp (by rfl) (me_fn (F__law_low c) hr (by decide) (by rfl) takesC (ma_cons (me_add (me_mul (me_var (i := 17)) (me_var (i := 23))) (me_mul (me_var (i := 22)) (me_var (i := 18)))) (ma_cons (me_mul (me_var (i := 18)) (me_var (i := 23))) ma_nil))) (mgs_cons (i := 17) (mgs_cons (i := 18) mgs_nil nd) nd)))))))) (mss_cons (ms_dput hr.units me_int (me_var (i := 20)) me_str) (mss_cons (ms_if (mt_not (mt_val (me_fn (F__law_same c 6) hr (by decide) (by rfl) takesC (ma_cons (me_fn (F_score_of c) hr (by decide) (by rfl) takesC (ma_cons (me_var (i := 3)) (ma_cons (me_var (i := 5)) (ma_cons (me_dcopy (by rfl) (me_var (i := 19)) (by rfl) c.g_dict (by rfl) c.g_list) (ma_cons (me_dcopy (by rfl) (me_var (i := 20)) (by rfl) c.g_dict (by rfl) c.g_list) (ma_cons (me_var (i := 4)) ma_nil)))))) (ma_cons (me_tup (ma_cons (me_var (i := 17)) (ma_cons (me_var (i := 18)) ma_nil))) ma_nil))))) (mss_one (ms_ret me_bl)) mss_nil) (mss_cons (ms_set (i := 9) (me_fn (F__law_rules c) hr (by decide) (by rfl) takesC (ma_cons (me_var (i := 1)) ma_nil)) nd) (mss_cons (ms_set (i := 10) (me_tuple (me_sortedSet (by rfl) (me_comp (by rfl) nd (mi_range1 (ma_cons (me_fn (F__law_take c) hr (by decide) (by rfl) takesC (ma_cons (me_var (i := 1)) (ma_cons me_int ma_nil))) ma_nil) (by rfl) c.g_range) (blk_of (own := [("k", 24)]) (by rfl)) mgk_name (by decide) (fun _ _ _ _ _ => (mg_name nd).pg) (fun _ _ _ _ _ => mts_nil) (fun _ _ _ _ _ => (me_fn (F__law_word c) hr (by decide) (by rfl) takesB (ma_cons (me_var (i := 1)) ma_nil)))) (by rfl) c.g_sorted (by rfl) c.g_set) (by rfl) c.g_tuple) nd) (mss_cons (ms_set (i := 6) (me_sortedSet (by rfl) (me_comp (by rfl) nd (mi_seq (me_var (i := 10))) (blk_of (own := [("word", 25)]) (by rfl)) mgk_name (by decide) (fun _ _ _ _ _ => (mg_name nd).pg) (fun _ _ _ _ _ => (mts_one (mt_cmp op_notN os_notN (me_fn (F__law_term c) hr (by decide) (by rfl) takesB (ma_cons (me_var (i := 9)) (ma_cons (me_var (i := 25)) ma_nil))) me_non (nomark _)))) (fun _ _ _ _ _ => (me_fn (F__law_term c) hr (by decide) (by rfl) takesB (ma_cons (me_var (i := 9)) (ma_cons (me_var (i := 25)) ma_nil))))) (by rfl) c.g_sorted (by rfl) c.g_set) nd) (mss_cons (ms_if (mt_not (mt_val (me_fn (F__law_same c 6) hr (by decide) (by rfl) takesC (ma_cons (me_fn (F_wish_terms c) hr (by decide) (by rfl) takesC (ma_cons (me_var (i := 9)) (ma_cons (me_var (i := 10)) ma_nil))) (ma_cons (me_tuple (me_var (i := 6)) (by rfl) c.g_tuple) ma_nil))))) (mss_one (ms_ret me_bl)) mss_nil) (mss_cons (ms_set (i := 11) (me_tup (ma_cons me_str (ma_cons me_str (ma_cons me_str (ma_cons me_str (ma_cons me_str (ma_cons me_str (ma_cons me_str (ma_cons me_str ma_nil))))))))) nd) (mss_cons (ms_set (i := 12) (me_lst (ma_cons (me_var (i := 10)) (ma_cons (me_rev (me_var (i := 10)) (me_neg me_int)) (ma_cons (me_add (me_var (i := 10)) (me_slice (me_var (i := 10)) (mo_some (me_neg me_int)) mo_none)) (ma_cons (me_var (i := 11)) (ma_cons (me_add (me_var (i := 11)) (me_tup (ma_cons me_str ma_nil))) (ma_cons (me_tup (ma_cons me_str ma_nil)) (ma_cons (me_tup (ma_cons me_str ma_nil)) (ma_cons (me_tup (ma_cons me_str ma_nil)) (ma_cons (me_tup (ma_cons (me_mul me_str me_int) ma_nil)) (ma_cons (me_tup (ma_cons (me_mul me_str me_int) ma_nil)) (ma_cons (me_tup (ma_cons me_int ma_nil)) (ma_cons me_non (ma_cons me_str ma_nil)))))))))))))) nd) (mss_one (ms_for owns (by rfl) (mi_seq (me_add (me_add (me_var (i := 12)) (me_lst (ma_cons (me_tup ma_nil) ma_nil))) (me_comp (by rfl) nd (mi_range1 (ma_cons me_int ma_nil) (by rfl) c.g_range) (blk_of (own := [("k", 24)]) (by rfl)) mgk_name (by decide) (fun _ _ _ _ _ => (mg_name nd).pg) (fun _ _ _ _ _ => mts_nil) (fun _ _ _ _ _ => (me_fn (F__law_spoilt c 4) hr (by decide) (by rfl) takesB (ma_cons (me_var (i := 1)) (ma_cons (me_var (i := 10)) ma_nil))))))) (mg_name nd) (mss_cons (ms_set (i := 21) (me_and (me_isi (T := .tup) (me_var (i := 13)) (by rfl) c.g_isinstance (by rfl) c.g_tuple (by decide +kernel)) (me_and (me_le (me_len (me_var (i := 13)) (by rfl) c.g_len) me_int) (me_one (me_all (by rfl) (me_comp (by rfl) nd (mi_seq (me_var (i := 13))) (blk_of (own := [("word", 25)]) (by rfl)) mgk_name (by decide) (fun _ _ _ _ _ => (mg_name nd).pg) (fun _ _ _ _ _ => mts_nil) (fun _ _ _ _ _ => (me_fn (F__law_is_word c) hr (by decide) (by rfl) takesB (ma_cons (me_var (i := 25)) ma_nil)))) (by rfl) c.g_all)))) nd) (mss_one (ms_if (mt_not (mt_val (me_fn (F__law_same c 6) hr (by decide) (by rfl) takesC (ma_cons (me_fn (F_are_wishes c) hr (by decide) (by rfl) takesC (ma_cons (me_var (i := 13)) ma_nil)) (ma_cons (me_and (me_var (i := 21)) (me_one (me_eq hr.units (me_list (me_var (i := 13)) (by rfl) c.g_list) (me_sortedSetT (by rfl) (me_var (i := 13)) (by rfl) c.g_sorted (by rfl) c.g_set)))) ma_nil))))) (mss_one (ms_ret me_bl)) mss_nil)))))))))))))))))))))))) (mss_one (ms_ret me_bl))))))
end
end K11
/-! # k11: same, comprehensions (as in other laws' texts) -/
namespace MI
open PySem PySem.Spec PyProof.Rows L2
theorem rest_wipe (env : List Slot) (vs : List Nat) : restE env (wipeE env vs) vs = env := by
  apply List.ext_getElem?
  intro i
  rw [restE_get _ _ (by rw [wipeE_len]), wipeE_get]
  split <;> rfl
theorem compGo_G {ι : Type} {vs : List Nat} {t : D → S → Option S} {e : M} {env : List Slot} {gl : List MObj} (a b : ι → D) : ∀ (l : List ι) (acc : List D), acc.length + l.length ≤ sizeLine →
    (∀ i ∈ l, ∃ e1 e2, t (a i) ⟨wipeE env vs, gl⟩ = some ⟨e1, gl⟩ ∧ mLeak e ⟨e1, gl⟩ = .ok (b i) ⟨e2, gl⟩ ∧ wipeE e2 vs = wipeE env vs) →
    compGo vs t mYes (mLeak e) (l.map a) acc ⟨wipeE env vs, gl⟩ = some (acc ++ l.map b, ⟨wipeE env vs, gl⟩)
  | [], acc, _, _ => by simp [compGo]
  | i :: l, acc, hl, he => by
    obtain ⟨e1, e2, h1, h2, h3⟩ := he i List.mem_cons_self
    have hl' : acc.length < sizeLine := by simp only [List.length_cons] at hl; omega
    have ih := compGo_G a b l (acc ++ [b i]) (by simp only [List.length_append, List.length_cons, List.length_nil] at hl ⊢; omega) fun j m => he j (List.mem_cons_of_mem _ m)
    rw [List.map_cons]
    unfold compGo
    rw [h1]
    simp only [ap_Yes, if_true, h2, hl']
    show compGo vs t mYes (mLeak e) (l.map a) (acc ++ [b i]) ⟨wipeE e2 vs, gl⟩ = _
    rw [h3, ih]
    simp
/-- a comprehension whose target is any -/
theorem comp_mapG {ι : Type} {vs : List Nat} {t : D → S → Option S} {e : M} {env : List Slot} {gl : List MObj} {it : S → Res (List D)} {s0 : S} (l : List ι) (a b : ι → D) (hi : it s0 = .ok (l.map a) ⟨env, gl⟩) (ho : noOwn env vs = true) (hl : l.length ≤ 1000000)
    (he : ∀ i ∈ l, ∃ e1 e2, t (a i) ⟨wipeE env vs, gl⟩ = some ⟨e1, gl⟩ ∧ mLeak e ⟨e1, gl⟩ = .ok (b i) ⟨e2, gl⟩ ∧ wipeE e2 vs = wipeE env vs) :
    mComp vs it t mYes e s0 = .ok (.new (.lst (l.map b))) ⟨env, gl⟩ := by
  have h1 := compGo_G a b l [] (by rw [List.length_nil, Nat.zero_add]; exact szN _ hl) he
  rw [ap_Comp, hi, Res.bind_ok, if_pos ho]
  show (match compGo vs t mYes (mLeak e) (l.map a) [] ⟨wipeE env vs, gl⟩ with | some (acc, s2) => Res.ok (RV.new (.lst acc)) ⟨restE env s2.env vs, s2.gl⟩ | none => .stuck) = _
  rw [h1]
  show Res.ok (RV.new (.lst ([] ++ l.map b))) (⟨restE env (wipeE env vs) vs, gl⟩ : S) = _
  rw [rest_wipe, List.nil_append]
end MI
namespace K11
open PySem PySem.Spec PyProof.Rows L2 MI
/-- a slot that holds no list of its own -/
def NoO (c : Slot) : Prop := ∀ o, c ≠ .own o
theorem no_of {env : List Slot} {v : Nat} {c : Slot} (h : env[v]? = some c) (hc : NoO c) : noOwn env [v] = true := by
  cases c with
  | own o => exact absurd rfl (hc o)
  | none => simp [noOwn, h]
  | val x => simp [noOwn, h]
theorem no_of2 {env : List Slot} {v w : Nat} {c d : Slot} (h : env[v]? = some c) (h2 : env[w]? = some d) (hc : NoO c) (hd : NoO d) : noOwn env [v, w] = true := by
  cases c with
  | own o => exact absurd rfl (hc o)
  | none => cases d with
    | own o => exact absurd rfl (hd o)
    | none => simp [noOwn, h, h2]
    | val x => simp [noOwn, h, h2]
  | val y => cases d with
    | own o => exact absurd rfl (hd o)
    | none => simp [noOwn, h, h2]
    | val x => simp [noOwn, h, h2]
theorem no_val (x : D) : NoO (.val x) := fun o h => nomatch h
theorem no_none : NoO .none := fun o h => nomatch h
theorem blsOf_map : ∀ bs : List Bool, blsOf (bs.map D.bl) = some bs
  | [] => rfl
  | b :: bs => by
    show (blsOf (bs.map D.bl)).map _ = _
    rw [blsOf_map bs]
    rfl
theorem range_bools (bs : List Bool) : (List.range bs.length).map (fun k => D.bl (bs.getD k false)) = bs.map D.bl := by
  apply List.ext_getElem?
  intro i
  rw [List.getElem?_map, List.getElem?_map]
  by_cases h : i < bs.length
  · rw [List.getElem?_range h, List.getElem?_eq_getElem h, Option.map_some, Option.map_some, List.getD_eq_getElem?_getD, List.getElem?_eq_getElem h]
    rfl
  · rw [List.getElem?_eq_none (by rw [List.length_range]; omega), List.getElem?_eq_none (by omega)]
    rfl
theorem same_seq (n : Nat) (gl : List MObj) (xs ys : List D) (bs : List Bool) (h1 : xs.length = bs.length) (h2 : ys.length = bs.length) (hl : bs.length ≤ 100000) (x y : D) (hx : ∀ (i : Nat) (z : D), xs[i]? = some z → ∀ s, opIx s (.d x) (.d (.int i)) = .ok (.d z) s) (hy : ∀ (i : Nat) (z : D), ys[i]? = some z → ∀ s, opIx s (.d y) (.d (.int i)) = .ok (.d z) s)
    (lx : ∀ s, fLen s (.d x) = .ok (.d (.int xs.length)) s)
    (hb : ∀ (i : Nat) (a b : D) (q : Bool), xs[i]? = some a → ys[i]? = some b → bs[i]? = some q → f__law_same n [a, b] gl = .ok (.bl q) gl) :
    mComp [2] (iRange1 (mACons (mFn1 fLen (mVar 0)) mANil)) (tgName 2) mYes (e__law_same_1 (f__law_same n)) ⟨[.val x, .val y, .none], gl⟩ = .ok (.new (.lst (bs.map D.bl))) ⟨[.val x, .val y, .none], gl⟩ := by
  rw [← range_bools]
  refine comp_mapI (List.range bs.length) (fun k => .int ((k : Nat) : Int)) (fun k => D.bl (bs.getD k false)) ?_ (by simp) rfl (by rw [List.length_range]; omega) fun i hi => ?_
  · have e : rangeD 0 bs.length = (List.range bs.length).map fun k => D.int ((k : Nat) : Int) := by
      rw [rangeD_map]
      exact List.map_congr_left fun k _ => by rw [Int.zero_add]
    have hr : rng1 (bs.length : Int) = some (rangeD 0 bs.length) := rng1_nat (by omega)
    simp [lx, h1, hr, e]
  · have hi := List.mem_range.mp hi
    obtain ⟨a, ha⟩ : ∃ a, xs[i]? = some a := ⟨_, List.getElem?_eq_getElem (by omega)⟩
    obtain ⟨b, hb'⟩ : ∃ b, ys[i]? = some b := ⟨_, List.getElem?_eq_getElem (by omega)⟩
    have hq : bs[i]? = some (bs.getD i false) := by rw [List.getD_eq_getElem?_getD, List.getElem?_eq_getElem hi]; rfl
    have r := hb i a b _ ha hb' hq
    have i1 := hx i a ha
    have i2 := hy i b hb'
    simp [-List.getD_eq_getElem?_getD, e__law_same_1, i1, i2, r]
theorem ixT (xs : List D) (i : Nat) (z : D) (h : xs[i]? = some z) (s : S) : opIx s (.d (.tup xs)) (.d (.int i)) = .ok (.d z) s := by
  refine q_ixT ?_
  have hl := (List.getElem?_eq_some_iff.mp h).1
  unfold atI ixN
  rw [if_pos (by omega), if_pos (by omega)]
  simpa using h
theorem ixL (xs : List D) (i : Nat) (z : D) (h : xs[i]? = some z) (s : S) : opIx s (.d (.lst xs)) (.d (.int i)) = .ok (.d z) s := by
  refine q_ixL rfl ?_
  have hl := (List.getElem?_eq_some_iff.mp h).1
  unfold atI ixN
  rw [if_pos (by omega), if_pos (by omega)]
  simpa using h
theorem same_tup (n : Nat) (gl : List MObj) (xs ys : List D) (bs : List Bool) (h1 : xs.length = bs.length) (h2 : ys.length = bs.length) (hl : bs.length ≤ 100000)
    (hb : ∀ (i : Nat) (a b : D) (q : Bool), xs[i]? = some a → ys[i]? = some b → bs[i]? = some q → f__law_same n [a, b] gl = .ok (.bl q) gl) : f__law_same (n + 1) [.tup xs, .tup ys] gl = .ok (.bl (bs.all id)) gl := by
  have cm := same_seq n gl xs ys bs h1 h2 hl (.tup xs) (.tup ys) (ixT xs) (ixT ys) (fun s => rfl) hb
  have fa : ∀ s, fAll s (.new (.lst (bs.map D.bl))) = .ok (.d (.bl (bs.all id))) s := fun s => by
    unfold fAll
    simp only [asLst, Option.bind_some, blsOf_map]
  have hxy : xs.length = ys.length := h1.trans h2.symm
  simp [-ap_Comp, f__law_same, mDef, List.replicate, b__law_same, fIsi, asD, tyD, isTy, truthD, cm, fa, hxy]
theorem same_tupN (n : Nat) (gl : List MObj) (xs ys : List D) (h : xs.length ≠ ys.length) : f__law_same (n + 1) [.tup xs, .tup ys] gl = .ok (.bl false) gl := by
  have h' : ¬ ((xs.length : Int) = ys.length) := by omega
  simp [-ap_Comp, f__law_same, mDef, List.replicate, b__law_same, fIsi, asD, tyD, isTy, truthD, h']
theorem same_lst (n : Nat) (gl : List MObj) (xs ys : List D) (bs : List Bool) (h1 : xs.length = bs.length) (h2 : ys.length = bs.length) (hl : bs.length ≤ 100000)
    (hb : ∀ (i : Nat) (a b : D) (q : Bool), xs[i]? = some a → ys[i]? = some b → bs[i]? = some q → f__law_same n [a, b] gl = .ok (.bl q) gl) : f__law_same (n + 1) [.lst xs, .lst ys] gl = .ok (.bl (bs.all id)) gl := by
  have cm := same_seq n gl xs ys bs h1 h2 hl (.lst xs) (.lst ys) (ixL xs) (ixL ys) (fun s => rfl) hb
  have fa : ∀ s, fAll s (.new (.lst (bs.map D.bl))) = .ok (.d (.bl (bs.all id))) s := fun s => by
    unfold fAll
    simp only [asLst, Option.bind_some, blsOf_map]
  have hxy : xs.length = ys.length := h1.trans h2.symm
  simp [-ap_Comp, f__law_same, mDef, List.replicate, b__law_same, fIsi, asD, tyD, isTy, truthD, cm, fa, hxy]
mutual
inductive Pl : Nat → D → Prop
  | non (n : Nat) : Pl (n + 1) .non
  | bl (n : Nat) (b : Bool) : Pl (n + 1) (.bl b)
  | int (n : Nat) (i : Int) : Pl (n + 1) (.int i)
  | str (n : Nat) (x : Str) : Pl (n + 1) (.str x)
  | tup (n : Nat) (xs : List D) : xs.length ≤ 100000 → PlL n xs → Pl (n + 1) (.tup xs)
  | lst (n : Nat) (xs : List D) : xs.length ≤ 100000 → PlL n xs → Pl (n + 1) (.lst xs)
inductive PlL : Nat → List D → Prop
  | nil (n : Nat) : PlL n []
  | cons (n : Nat) (x : D) (xs : List D) : Pl n x → PlL n xs → PlL n (x :: xs)
end
theorem PlL.get {n : Nat} : ∀ {xs : List D} {k : Nat} {x : D}, PlL n xs → xs[k]? = some x → Pl n x
  | _, 0, _, .cons _ _ _ h _, e => by simp at e; subst e; exact h
  | _, k + 1, _, .cons _ _ _ _ t, e => PlL.get t (by simpa using e)
theorem all_true (n : Nat) : (List.replicate n true).all id = true := by
  rw [List.all_eq_true]
  intro b hb
  rw [(List.mem_replicate.mp hb).2]
  rfl
theorem same_refl (gl : List MObj) : ∀ (n : Nat) (x : D), Pl n x → f__law_same n [x, x] gl = .ok (.bl true) gl := by
  intro n
  induction n with
  | zero => intro x h; cases h
  | succ n ih =>
    intro x h
    have key : ∀ xs : List D, PlL n xs → ∀ (i : Nat) (a b : D) (q : Bool), xs[i]? = some a → xs[i]? = some b → (List.replicate xs.length true)[i]? = some q → f__law_same n [a, b] gl = .ok (.bl q) gl := fun xs hx i a b q ha hb hq => by
      rw [ha] at hb
      cases hb
      have : q = true := (List.mem_replicate.mp (List.mem_of_getElem? hq)).2
      rw [this]
      exact ih a (hx.get ha)
    cases h with
    | non => simp [f__law_same, mDef, List.replicate, b__law_same, fIsi, asD, tyD, isTy, truthD, opIsN, isNonRV]
    | bl _ b => simp [f__law_same, mDef, List.replicate, b__law_same, fIsi, asD, tyD, isTy, truthD, opIsN, isNonRV, opEq, eqvO, eqS]
    | int _ i => simp [f__law_same, mDef, List.replicate, b__law_same, fIsi, asD, tyD, isTy, truthD, opIsN, isNonRV, opEq, eqvO, eqS]
    | str _ z => simp [f__law_same, mDef, List.replicate, b__law_same, fIsi, asD, tyD, isTy, truthD, opIsN, isNonRV, opEq, eqvO, eqS]
    | tup _ xs hl hx =>
      rw [same_tup n gl xs xs (List.replicate xs.length true) (by simp) (by simp) (by simpa using hl) (key xs hx), all_true]
    | lst _ xs hl hx =>
      rw [same_lst n gl xs xs (List.replicate xs.length true) (by simp) (by simp) (by simpa using hl) (key xs hx), all_true]
theorem pl_int (n : Nat) (h : 0 < n) (i : Int) : Pl n (.int i) := by cases n with
  | zero => omega
  | succ n => exact .int n i
theorem pl_non (n : Nat) (h : 0 < n) : Pl n .non := by cases n with
  | zero => omega
  | succ n => exact .non n
theorem pl_il (n : Nat) (l : List Int) : PlL (n + 1) (IL l) := by
  induction l with
  | nil => exact .nil _
  | cons a l ih => exact .cons _ _ _ (.int _ _) ih
theorem pl_tupI (n : Nat) (l : List Int) (h : l.length ≤ 100000) : Pl (n + 2) (.tup (IL l)) := .tup _ _ (by simpa using h) (pl_il n l)
theorem pl_lstI (n : Nat) (l : List Int) (h : l.length ≤ 100000) : Pl (n + 2) (.lst (IL l)) := .lst _ _ (by simpa using h) (pl_il n l)
end K11
/-! # k11: ratios -/
namespace K11
open PySem PySem.Spec PyProof.Rows L2 MI
/-- p/q by its least numbers -/
def red (p q : Nat) : Nat × Nat := (p / Nat.gcd p q, q / Nat.gcd p q)
def rN (x : Nat × Nat) : D := .tup [.int (x.1 : Nat), .int (x.2 : Nat)]
theorem red_scale {k : Nat} (hk : 0 < k) (p q : Nat) : red (k * p) (k * q) = red p q := by
  unfold red
  rw [Nat.gcd_mul_left, Nat.mul_div_mul_left _ _ hk, Nat.mul_div_mul_left _ _ hk]
theorem red_eq {p q r s : Nat} (hq : 0 < q) (hs : 0 < s) (h : p * s = r * q) : red p q = red r s := by
  rw [← red_scale hs p q, ← red_scale hq r s, Nat.mul_comm s p, h, Nat.mul_comm s q, Nat.mul_comm r q]
theorem gcd_pos {p q : Nat} (hq : 0 < q) : 0 < Nat.gcd p q := Nat.gcd_pos_of_pos_right _ hq
theorem red_1 (p q : Nat) : (red p q).1 * Nat.gcd p q = p := Nat.div_mul_cancel (Nat.gcd_dvd_left p q)
theorem red_2 (p q : Nat) : (red p q).2 * Nat.gcd p q = q := Nat.div_mul_cancel (Nat.gcd_dvd_right p q)
theorem red_pos {p q : Nat} (hq : 0 < q) : 0 < (red p q).2 := Nat.div_pos (Nat.le_of_dvd hq (Nat.gcd_dvd_right p q)) (gcd_pos hq)
theorem red_le1 (p q : Nat) : (red p q).1 ≤ p := Nat.div_le_self _ _
theorem red_le2 (p q : Nat) : (red p q).2 ≤ q := Nat.div_le_self _ _
/-- the same ratio -/
theorem red_same (p q : Nat) : (red p q).1 * q = p * (red p q).2 := by
  have h1 := red_1 p q
  have h2 := red_2 p q
  generalize (red p q).1 = x at *
  generalize (red p q).2 = y at *
  generalize Nat.gcd p q = g at *
  rw [← h1, ← h2]
  rw [Nat.mul_assoc, Nat.mul_comm g y]
theorem red_red {p q : Nat} (hq : 0 < q) : red (red p q).1 (red p q).2 = red p q := red_eq (red_pos hq) hq (red_same p q)
/-- a sum of reduced ones -/
theorem red_sum {p q r s : Nat} (hq : 0 < q) (hs : 0 < s) (x y : Nat × Nat) (hx : x.1 * q = p * x.2) (hy : y.1 * s = r * y.2) (hx2 : 0 < x.2) (hy2 : 0 < y.2) : red (x.1 * y.2 + y.1 * x.2) (x.2 * y.2) = red (p * s + r * q) (q * s) := by
  refine red_eq (Nat.mul_pos hx2 hy2) (Nat.mul_pos hq hs) ?_
  obtain ⟨a, b⟩ := x
  obtain ⟨c, d⟩ := y
  simp only at *
  have e1 : a * d * (q * s) = (p * s) * (b * d) := by
    calc a * d * (q * s) = (a * q) * (d * s) := by ac_rfl
      _ = (p * b) * (d * s) := by rw [hx]
      _ = (p * s) * (b * d) := by ac_rfl
  have e2 : c * b * (q * s) = (r * q) * (b * d) := by
    calc c * b * (q * s) = (c * s) * (b * q) := by ac_rfl
      _ = (r * d) * (b * q) := by rw [hy]
      _ = (r * q) * (b * d) := by ac_rfl
  rw [Nat.add_mul, Nat.add_mul, e1, e2]
theorem red_times {p q r s : Nat} (hq : 0 < q) (hs : 0 < s) (x y : Nat × Nat) (hx : x.1 * q = p * x.2) (hy : y.1 * s = r * y.2) (hx2 : 0 < x.2) (hy2 : 0 < y.2) : red (x.1 * y.1) (x.2 * y.2) = red (p * r) (q * s) := by
  refine red_eq (Nat.mul_pos hx2 hy2) (Nat.mul_pos hq hs) ?_
  calc x.1 * y.1 * (q * s) = (x.1 * q) * (y.1 * s) := by ac_rfl
    _ = (p * x.2) * (r * y.2) := by rw [hx, hy]
    _ = p * r * (x.2 * y.2) := by ac_rfl
theorem lt_cross {p q r s : Nat} (hq : 0 < q) (hs : 0 < s) (x y : Nat × Nat) (hx : x.1 * q = p * x.2) (hy : y.1 * s = r * y.2) (hx2 : 0 < x.2) (hy2 : 0 < y.2) : x.1 * y.2 < y.1 * x.2 ↔ p * s < r * q := by
  obtain ⟨a, b⟩ := x
  obtain ⟨c, d⟩ := y
  simp only at *
  have e1 : a * d * (q * s) = (p * s) * (b * d) := by
    calc a * d * (q * s) = (a * q) * (d * s) := by ac_rfl
      _ = (p * b) * (d * s) := by rw [hx]
      _ = (p * s) * (b * d) := by ac_rfl
  have e2 : c * b * (q * s) = (r * q) * (b * d) := by
    calc c * b * (q * s) = (c * s) * (b * q) := by ac_rfl
      _ = (r * d) * (b * q) := by rw [hy]
      _ = (r * q) * (b * d) := by ac_rfl
  have k1 : 0 < q * s := Nat.mul_pos hq hs
  have k2 : 0 < b * d := Nat.mul_pos hx2 hy2
  rw [← Nat.mul_lt_mul_right k1, e1, e2, Nat.mul_lt_mul_right k2]
/-! ### the program's and the law's -/
/-- not too many signs to be divided by -/
def Few (n : Nat) : Prop := n.log2 < 9000
theorem few_le {m n : Nat} (h : Few n) (hm : m ≤ n) : Few m := by
  unfold Few at *
  by_cases z : m = 0
  · subst z; rw [Nat.log2_zero]; omega
  · have hn : n ≠ 0 := by omega
    have := (Nat.log2_lt hn).mp h
    exact (Nat.log2_lt z).mpr (Nat.lt_of_le_of_lt hm this)
theorem few_64 {n : Nat} (h : n < 2 ^ 64) : Few n := by
  by_cases z : n = 0
  · subst z; unfold Few; rw [Nat.log2_zero]; omega
  · have := (Nat.log2_lt z).mpr h
    unfold Few
    omega
theorem fdivN {s : S} (a b : Nat) (hb : 0 < b) (hf : Few b) : opFdiv s (.d (.int a)) (.d (.int b)) = .ok (.d (.int (a / b : Nat))) s := by
  rw [q_fdivW (by omega) (by rw [Int.natAbs_natCast]; exact hf)]
  rfl
theorem modN {s : S} (a b : Nat) (hb : 0 < b) : opMod s (.d (.int a)) (.d (.int b)) = .ok (.d (.int (a % b : Nat))) s := by
  rw [q_mod (by omega)]
  rfl
theorem absN {s : S} (a : Nat) : fAbs s (.d (.int a)) = .ok (.d (.int a)) s := by
  unfold fAbs
  simp only [asInt]
  rw [if_neg (by omega)]
theorem dv_loop (gl : List MObj) : ∀ (n b a : Nat), b ≤ n → ∃ N, whileGo t_divisor_of_1 l_divisor_of_2 N ⟨[.val (.int a), .val (.int b)], gl⟩ = .ok .nx ⟨[.val (.int (Nat.gcd b a)), .val (.int 0)], gl⟩
  | n, b, a, h => by
    by_cases z : b = 0
    · subst z
      rw [Nat.gcd_zero_left]
      refine wh_stop ?_
      simp [t_divisor_of_1, asD, truthD]
    · cases n with
      | zero => omega
      | succ n =>
        have hb : 0 < b := by omega
        have lt := Nat.mod_lt a hb
        have ih := dv_loop gl n (a % b) b (by omega)
        rw [← Nat.gcd_rec] at ih
        have md := fun s => modN (s := s) a b hb
        have hz : ¬ b = 0 := z
        refine wh_step (s1 := ⟨[.val (.int a), .val (.int b)], gl⟩) ?_ (s2 := ⟨[.val (.int b), .val (.int (a % b : Nat))], gl⟩) ?_ ih
        · simp [t_divisor_of_1, asD, truthD, hz]
        · generalize a % b = r at md ⊢
          simp [l_divisor_of_2, md, as_d]
theorem divisor_spec (a b : Nat) (gl : List MObj) : f_divisor_of [.int a, .int b] gl = .ok (.int (Nat.gcd a b)) gl := by
  have w := wh_done (dv_loop gl b b a (Nat.le_refl _)) (by simp)
  rw [Nat.gcd_comm] at w
  have aa := fun s a => absN (s := s) a
  simp [f_divisor_of, mDef, List.replicate, b_divisor_of, aa, as_d, w]
theorem ratio_spec (p q : Nat) (hq : 0 < q) (hf : Few q) (gl : List MObj) : f_ratio_of [.int p, .int q] gl = .ok (rN (red p q)) gl := by
  have dv := divisor_spec p q gl
  have hg := gcd_pos (p := p) hq
  have fg : Few (Nat.gcd p q) := few_le hf (Nat.le_of_dvd hq (Nat.gcd_dvd_right p q))
  have f1 := fun s => fdivN (s := s) p _ hg fg
  have f2 := fun s => fdivN (s := s) q _ hg fg
  have nq : ¬ (q : Int) < 0 := by omega
  unfold rN red
  simp only
  generalize p / Nat.gcd p q = x at *
  generalize q / Nat.gcd p q = y at *
  generalize Nat.gcd p q = g at *
  simp [f_ratio_of, mDef, List.replicate, b_ratio_of, nq, dv, as_d, f1, f2]
theorem lw_loop (p q : Slot) (gl : List MObj) : ∀ (n b a : Nat), b ≤ n → Few b → Few a → ∃ N, whileGo t__law_low_1 l__law_low_2 N ⟨[p, q, .val (.int a), .val (.int b)], gl⟩ = .ok .nx ⟨[p, q, .val (.int (Nat.gcd b a)), .val (.int 0)], gl⟩
  | n, b, a, h, hf, ha => by
    by_cases z : b = 0
    · subst z
      rw [Nat.gcd_zero_left]
      refine wh_stop ?_
      simp [t__law_low_1]
    · cases n with
      | zero => omega
      | succ n =>
        have hb : 0 < b := by omega
        have lt := Nat.mod_lt a hb
        have ih := lw_loop p q gl n (a % b) b (by omega) (few_le hf (by omega)) hf
        rw [← Nat.gcd_rec] at ih
        have fd := fun s => fdivN (s := s) a b hb hf
        have e : (a : Int) - (a / b : Nat) * b = (a % b : Nat) := by
          have := Nat.div_add_mod a b
          rw [Nat.mul_comm] at this
          have : ((a / b * b + a % b : Nat) : Int) = a := by rw [this]
          rw [Int.natCast_add, Int.natCast_mul] at this
          omega
        have ml : ∀ s, opMul s (.d (.int (a / b : Nat))) (.d (.int b)) = .ok (.d (.int ((a / b : Nat) * b))) s := fun s => by
          refine q_mul ?_
          have h1 : (a / b).log2 < 9000 := few_le ha (Nat.div_le_self a b)
          have h2 : b.log2 < 9000 := hf
          unfold cMul
          rw [Int.natAbs_natCast, Int.natAbs_natCast, decide_eq_true (show (a / b).log2 + b.log2 < 1000000 by omega), Bool.or_true]
        refine wh_step (s1 := ⟨[p, q, .val (.int a), .val (.int b)], gl⟩) ?_ (s2 := ⟨[p, q, .val (.int b), .val (.int (a % b : Nat))], gl⟩) ?_ ih
        · simp [t__law_low_1, hb]
        · rw [← e]
          generalize a / b = r at fd ml ⊢
          simp [l__law_low_2, fd, ml, as_d]
theorem low_spec (p q : Nat) (hq : 0 < q) (hf : Few q) (hp : Few p) (gl : List MObj) : f__law_low [.int p, .int q] gl = .ok (rN (red p q)) gl := by
  have w := wh_done (lw_loop (.val (.int p)) (.val (.int q)) gl q q p (Nat.le_refl _) hf hp) (by simp)
  rw [Nat.gcd_comm] at w
  have aa := fun s a => absN (s := s) a
  have hg := gcd_pos (p := p) hq
  have fg : Few (Nat.gcd p q) := few_le hf (Nat.le_of_dvd hq (Nat.gcd_dvd_right p q))
  have f1 := fun s => fdivN (s := s) p _ hg fg
  have f2 := fun s => fdivN (s := s) q _ hg fg
  unfold rN red
  simp only
  generalize p / Nat.gcd p q = x at *
  generalize q / Nat.gcd p q = y at *
  generalize Nat.gcd p q = g at *
  simp [f__law_low, mDef, List.replicate, b__law_low, aa, as_d, w, f1, f2]
theorem ix0 (x y : D) (s : S) : opIx s (.d (.tup [x, y])) (.d (.int 0)) = .ok (.d x) s := q_ixT rfl
theorem ix1 (x y : D) (s : S) : opIx s (.d (.tup [x, y])) (.d (.int 1)) = .ok (.d y) s := q_ixT rfl
theorem mulR (a b : Nat) (hb : b < 2 ^ 64) (s : S) : opMul s (.d (.int a)) (.d (.int b)) = .ok (.d (.int (a * b : Nat))) s := by
  rw [q_mulR (by rw [Int.natAbs_natCast]; exact hb), Int.natCast_mul]
theorem mulL (a b : Nat) (ha : a < 2 ^ 64) (s : S) : opMul s (.d (.int a)) (.d (.int b)) = .ok (.d (.int (a * b : Nat))) s := by
  rw [q_mulL (by rw [Int.natAbs_natCast]; exact ha), Int.natCast_mul]
theorem addN (a b : Nat) (s : S) : opAdd s (.d (.int a)) (.d (.int b)) = .ok (.d (.int (a + b : Nat))) s := by
  rw [q_add, Int.natCast_add]
theorem times_spec (x y : Nat × Nat) (hx : 0 < x.2) (hy : 0 < y.2) (h1 : y.1 < 2 ^ 64) (h2 : y.2 < 2 ^ 64) (hf : Few (x.2 * y.2)) (gl : List MObj) : f_times_of [rN x, rN y] gl = .ok (rN (red (x.1 * y.1) (x.2 * y.2))) gl := by
  have r := ratio_spec (x.1 * y.1) (x.2 * y.2) (Nat.mul_pos hx hy) hf gl
  have m1 := mulR x.1 y.1 h1
  have m2 := mulR x.2 y.2 h2
  generalize rN (red (x.1 * y.1) (x.2 * y.2)) = R at *
  generalize x.1 * y.1 = A at *
  generalize x.2 * y.2 = B at *
  simp [f_times_of, mDef, List.replicate, b_times_of, rN, ix0, ix1, m1, m2, r]
theorem sum_spec (x y : Nat × Nat) (hx : 0 < x.2) (hy : 0 < y.2) (h1 : y.1 < 2 ^ 64) (h2 : y.2 < 2 ^ 64) (hf : Few (x.2 * y.2)) (gl : List MObj) : f_sum_of [rN x, rN y] gl = .ok (rN (red (x.1 * y.2 + y.1 * x.2) (x.2 * y.2))) gl := by
  have r := ratio_spec (x.1 * y.2 + y.1 * x.2) (x.2 * y.2) (Nat.mul_pos hx hy) hf gl
  have m1 := mulR x.1 y.2 h2
  have m2 := mulL y.1 x.2 h1
  have m3 := mulR x.2 y.2 h2
  have ad := addN (x.1 * y.2) (y.1 * x.2)
  generalize rN (red (x.1 * y.2 + y.1 * x.2) (x.2 * y.2)) = R at *
  generalize x.1 * y.2 + y.1 * x.2 = C at *
  generalize x.1 * y.2 = A at *
  generalize y.1 * x.2 = A2 at *
  generalize x.2 * y.2 = B at *
  simp [-q_add, f_sum_of, mDef, List.replicate, b_sum_of, rN, ix0, ix1, m1, m2, m3, ad, r]
theorem below_spec (x y : Nat × Nat) (h2 : y.2 < 2 ^ 64) (h3 : x.2 < 2 ^ 64) (gl : List MObj) : f_is_below [rN x, rN y] gl = .ok (.bl (decide (x.1 * y.2 < y.1 * x.2))) gl := by
  have m1 := mulR x.1 y.2 h2
  have m2 := mulR y.1 x.2 h3
  have lt : ∀ s, opLt s (.d (.int (x.1 * y.2 : Nat))) (.d (.int (y.1 * x.2 : Nat))) = .ok (.d (.bl (decide (x.1 * y.2 < y.1 * x.2)))) s := fun s => by rw [q_lt]; simp only [Int.ofNat_lt]
  generalize decide (x.1 * y.2 < y.1 * x.2) = R at *
  generalize x.1 * y.2 = A at *
  generalize y.1 * x.2 = B at *
  simp [-q_lt, f_is_below, mDef, List.replicate, b_is_below, rN, ix0, ix1, m1, m2, lt]
theorem weight_spec (many having : Nat) (h : having < 10000000) (gl : List MObj) : f_weight_of [.int many, .int having] gl = .ok (rN (red (many + 1) (having + 1))) gl := by
  have r := ratio_spec (many + 1) (having + 1) (by omega) (few_64 (by omega)) gl
  have a1 := addN many 1
  have a2 := addN having 1
  generalize red (many + 1) (having + 1) = R at *
  generalize many + 1 = A at *
  generalize having + 1 = B at *
  have e : ((1 : Nat) : Int) = 1 := rfl
  rw [e] at a1 a2
  simp [-q_add, f_weight_of, mDef, List.replicate, b_weight_of, a1, a2, r]
/-- what a part is of -/
def pN (total count : Nat) : Nat := 4 * count * total
def qN (many total count length : Nat) : Nat := 2 * count * total + total + length * many
theorem part_spec (many total count length : Nat) (ht : 0 < total) (h1 : total < 2 ^ 64) (h2 : many < 2 ^ 64) (hf : Few (qN many total count length)) (gl : List MObj) : f_part_of [.int many, .int total, .int count, .int length] gl = .ok (rN (red (pN total count) (qN many total count length))) gl := by
  have r := ratio_spec (pN total count) (qN many total count length) (by unfold qN; omega) hf gl
  have m1 := mulL 4 count (by omega)
  have m2 := mulR (4 * count) total h1
  have m3 := mulL 2 count (by omega)
  have m4 := mulR (2 * count) total h1
  have m5 := mulR length many h2
  have a1 := addN (2 * count * total) total
  have a2 := addN (2 * count * total + total) (length * many)
  have ne : ¬ total = 0 := by omega
  generalize red (pN total count) (qN many total count length) = R at *
  unfold pN qN at r
  generalize 2 * count * total + total + length * many = Q at *
  generalize 2 * count * total + total = Q1 at *
  generalize 2 * count * total = Q2 at *
  generalize 2 * count = Q3 at *
  generalize 4 * count * total = P1 at *
  generalize 4 * count = P2 at *
  generalize length * many = P3 at *
  have e4 : ((4 : Nat) : Int) = 4 := rfl
  have e2 : ((2 : Nat) : Int) = 2 := rfl
  rw [e4] at m1
  rw [e2] at m3
  simp [-q_add, f_part_of, mDef, List.replicate, b_part_of, ne, m1, m2, m3, m4, m5, a1, a2, r]
theorem part_zero (many count length : Nat) (gl : List MObj) : f_part_of [.int many, .int 0, .int count, .int length] gl = .ok (rN (0, 1)) gl := by
  simp [f_part_of, mDef, List.replicate, b_part_of, rN]
theorem is_ratio_spec (p q : Nat) (hq : 0 < q) (hf : Few q) (gl : List MObj) : f_is_ratio [rN (red p q)] gl = .ok (.bl true) gl := by
  have r := ratio_spec (red p q).1 (red p q).2 (red_pos hq) (few_le hf (red_le2 p q)) gl
  rw [red_red hq] at r
  have hp := red_pos (p := p) hq
  generalize red p q = R at *
  obtain ⟨a, b⟩ := R
  simp only at r hp
  have e : ∀ s, opEq false s (.d (rN (a, b))) (.d (rN (a, b))) = .ok (.d (.bl true)) s := fun s => by
    have := q_eqT (s := s) (n := false) (a := [(a : Int), (b : Int)]) (b := [(a : Int), (b : Int)])
    simpa [rN] using this
  have w : ∀ z : Int, f_is_whole [.int z] gl = .ok (.bl true) gl := fun z => by
    have i1 : ∀ s, fIsi .int s (.d (.int z)) = .ok (.d (.bl true)) s := fun s => rfl
    have i2 : ∀ s, fIsi .bool s (.d (.int z)) = .ok (.d (.bl false)) s := fun s => rfl
    simp [f_is_whole, mDef, List.replicate, b_is_whole, i1, i2]
  have i3 : ∀ s xs, fIsi .tup s (.d (.tup xs)) = .ok (.d (.bl true)) s := fun s xs => rfl
  have l2 : ∀ s, fLen s (.d (.tup [.int a, .int b])) = .ok (.d (.int 2)) s := fun s => rfl
  unfold rN at *
  simp only at *
  simp [-q_eqT, -q_lenT, f_is_ratio, mDef, List.replicate, b_is_ratio, i3, asD, truthD, l2, ix0, ix1, w, hp, r, e]
end K11
/-! # k11: the tape -/
namespace K11
open PySem PySem.Spec PyProof.Rows L2 MI
def mx1 (n : Int) : Int := (n * 6364136223846793005 + 1442695040888963407) % 18446744073709551616
def mixI (n : Int) : Int := (mx1 n * mx1 n / 4294967296 + mx1 n * 69621) % 18446744073709551557
theorem mx_lo (n : Int) : 0 ≤ mx1 n ∧ mx1 n < 18446744073709551616 := ⟨Int.emod_nonneg _ (by omega), Int.emod_lt_of_pos _ (by omega)⟩
theorem mix_lo (n : Int) : 0 ≤ mixI n := Int.emod_nonneg _ (by omega)
theorem mix_spec (n : Int) (gl : List MObj) : f__law_mix [.int n] gl = .ok (.int (mixI n)) gl := by
  obtain ⟨l1, l2⟩ := mx_lo n
  have m1 : ∀ s, opMul s (.d (.int n)) (.d (.int 6364136223846793005)) = .ok (.d (.int (n * 6364136223846793005))) s := fun s => q_mulR (by omega)
  have md : ∀ s, opMod s (.d (.int (n * 6364136223846793005 + 1442695040888963407))) (.d (.int 18446744073709551616)) = .ok (.d (.int (mx1 n))) s := fun s => q_mod (by omega)
  have m2 : ∀ s, opMul s (.d (.int (mx1 n))) (.d (.int (mx1 n))) = .ok (.d (.int (mx1 n * mx1 n))) s := fun s => q_mulL (by omega)
  have m3 : ∀ s, opMul s (.d (.int (mx1 n))) (.d (.int 69621)) = .ok (.d (.int (mx1 n * 69621))) s := fun s => q_mulR (by omega)
  have fd : ∀ s, opFdiv s (.d (.int (mx1 n * mx1 n))) (.d (.int 4294967296)) = .ok (.d (.int (mx1 n * mx1 n / 4294967296))) s := fun s => q_fdivW (by omega) (few_64 (n := 4294967296) (by omega))
  have md2 : ∀ s, opMod s (.d (.int (mx1 n * mx1 n / 4294967296 + mx1 n * 69621))) (.d (.int 18446744073709551557)) = .ok (.d (.int (mixI n))) s := fun s => q_mod (by omega)
  generalize mixI n = R at *
  generalize mx1 n * mx1 n / 4294967296 = A at *
  generalize mx1 n * mx1 n = B at *
  generalize mx1 n * 69621 = C at *
  generalize mx1 n = E at *
  simp [f__law_mix, mDef, List.replicate, b__law_mix, m1, md, as_d, m2, m3, fd, md2]
theorem cut_hi' {α : Type} {xs : List α} {k : Nat} : cut xs none (some (k : Int)) = xs.take k := by
  unfold cut HT.sIx
  have e : ¬ ((k : Int) < 0) := by omega
  simp only [e, if_false, Int.toNat_natCast, List.drop_zero, Nat.sub_zero]
  by_cases h : k ≤ xs.length
  · rw [Nat.min_eq_left h]
  · rw [Nat.min_eq_right (by omega), List.take_of_length_le (Nat.le_refl _), List.take_of_length_le (by omega)]
/-- the tape -/
def Tp (gl : List MObj) : Prop := ∃ (cs : List Int) (i : Nat) (x y : Int) (rest : List MObj), gl = .lst [.lst (IL cs), .int i, .int x, .int y] :: rest ∧ i ≤ cs.length ∧ 0 ≤ x ∧ cs.length ≤ 1000
theorem tape_spec (ns : List Int) (h : ns.length ≤ 63) : ∃ gl, f__law_tape [.scr (ns.map D.int)] [] = .ok (.ref 0) gl ∧ Tp gl := by
  refine ⟨[.lst [.lst (IL (cut ns none (some 80))), .int 0, .int 0, .int (1 + ns.length)]], ?_, cut ns none (some 80), 0, 0, 1 + ns.length, [], rfl, Nat.zero_le _, by omega, ?_⟩
  · have sl : ∀ s : S, opSl none (some 80) s (.d (.scr (ns.map D.int))) = .ok (.new (.lst (IL (cut ns none (some 80))))) s := fun s => by
      unfold opSl
      simp only [asTup, asLst, asScr]
      rw [cut_il]
    have fl : ∀ s l, fList s (.new (.lst l)) = .ok (.new (.lst l)) s := fun s l => rfl
    have ln : ∀ s : S, fLen s (.d (.scr (ns.map D.int))) = .ok (.d (.int ns.length)) s := fun s => by
      unfold fLen
      simp [asD, lenD]
    generalize IL (cut ns none (some 80)) = L at sl ⊢
    simp [f__law_tape, mDef, List.replicate, b__law_tape, asInt, sl, fl, ln]
  · have e : cut ns none (some 80) = ns := by
      have := cut_hi' (xs := ns) (k := 80)
      rw [show ((80 : Nat) : Int) = 80 from rfl] at this
      rw [this, List.take_of_length_le (by omega)]
    rw [e]
    omega
theorem take_spec (gl : List MObj) (m : Nat) (h : Tp gl) (h0 : 0 < m) (h2 : m < 1073741824) : ∃ (r : Nat) (gl' : List MObj), f__law_take [.ref 0, .int m] gl = .ok (.int r) gl' ∧ r < m ∧ Tp gl' := by
  obtain ⟨cs, i, x, y, rest, rfl, hi, hx, hc⟩ := h
  have em : ∀ z : Int, ∃ r : Nat, z % m = (r : Nat) ∧ r < m := fun z => by
    have a := Int.emod_nonneg z (b := (m : Int)) (by omega)
    have b := Int.emod_lt_of_pos z (b := (m : Int)) (by omega)
    exact ⟨(z % m).toNat, by omega, by omega⟩
  have md : ∀ s (z : Int), opMod s (.d (.int z)) (.d (.int m)) = .ok (.d (.int (z % m))) s := fun s z => q_mod (by omega)
  have fd : ∀ s (z : Int), opFdiv s (.d (.int z)) (.d (.int m)) = .ok (.d (.int (z / m))) s := fun s z => q_fdiv (by omega) (by omega)
  have ln : ∀ s, fLen s (.d (.lst (IL cs))) = .ok (.d (.int cs.length)) s := fun s => by rw [q_lenD, List.length_map]
  have mx := fun n gl => mix_spec n gl
  by_cases hm : x < m
  · by_cases hz : i < cs.length
    · obtain ⟨c, hc1⟩ : ∃ c, cs[i]? = some c := ⟨_, List.getElem?_eq_getElem hz⟩
      have ix : ∀ s, opIx s (.d (.lst (IL cs))) (.d (.int i)) = .ok (.d (.int c)) s := fun s => q_ixL rfl (atI_get (by rw [List.getElem?_map, hc1]; rfl))
      have hz' : (i : Int) < cs.length := by omega
      have p18 : ∀ s, opPow s (.d (.int 10)) (.d (.int 18)) = .ok (.d (.int 1000000000000000000)) s := fun s => rfl
      have mm : ∀ s (z : Int), opMul s (.d (.int 2)) (.d (.int z)) = .ok (.d (.int (2 * z))) s := fun s z => q_mulL (by omega)
      have mn : ∀ s (z : Int), opMul s (.d (.int (-2))) (.d (.int z)) = .ok (.d (.int (-2 * z))) s := fun s z => q_mulL (by omega)
      obtain ⟨w, hw, hw0⟩ : ∃ w : Int, (if 0 ≤ c then 2 * c else -2 * c - 1) = w ∧ 0 ≤ w := ⟨_, rfl, by split <;> omega⟩
      obtain ⟨x', hx', hx0⟩ : ∃ x' : Int, (if 1000000000000000000 ≤ w then w else mixI (mixI w + (i + 1))) = x' ∧ 0 ≤ x' := ⟨_, rfl, by
        split
        · exact hw0
        · exact mix_lo _⟩
      obtain ⟨r, hr, hrm⟩ := em x'
      refine ⟨r, .lst [.lst (IL cs), .int (i + 1 : Nat), .int (x' / m), .int (mixI (y + w))] :: rest, ?_, hrm, cs, i + 1, x' / m, _, rest, rfl, by omega, Int.ediv_nonneg hx0 (by omega), hc⟩
      generalize IL cs = L at *
      by_cases hcc : 0 ≤ c
      · rw [if_pos hcc] at hw
        subst hw
        by_cases hb : 1000000000000000000 ≤ 2 * c
        · rw [if_pos hb] at hx'
          subst hx'
          simp [f__law_take, mDef, List.replicate, b__law_take, q_ixL, asLst, atI, ixN, as_d, hm, hz, ln, ix, hcc, mm, mx, p18, hb, md, fd, hr]
        · rw [if_neg hb] at hx'
          subst hx'
          simp [f__law_take, mDef, List.replicate, b__law_take, q_ixL, asLst, atI, ixN, as_d, hm, hz, ln, ix, hcc, mm, mx, p18, hb, md, fd, hr]
      · rw [if_neg hcc] at hw
        subst hw
        by_cases hb : 1000000000000000000 ≤ -2 * c - 1
        · rw [if_pos hb] at hx'
          subst hx'
          simp [f__law_take, mDef, List.replicate, b__law_take, q_ixL, asLst, atI, ixN, as_d, hm, hz, ln, ix, hcc, mn, mx, p18, hb, md, fd, hr]
        · rw [if_neg hb] at hx'
          subst hx'
          simp [f__law_take, mDef, List.replicate, b__law_take, q_ixL, asLst, atI, ixN, as_d, hm, hz, ln, ix, hcc, mn, mx, p18, hb, md, fd, hr]
    · obtain ⟨r, hr, hrm⟩ := em (mixI (y + 1))
      refine ⟨r, .lst [.lst (IL cs), .int i, .int (mixI (y + 1) / m), .int (mixI (y + 1))] :: rest, ?_, hrm, cs, i, _, _, rest, rfl, hi, Int.ediv_nonneg (mix_lo _) (by omega), hc⟩
      generalize IL cs = L at *
      simp [f__law_take, mDef, List.replicate, b__law_take, q_ixL, asLst, atI, ixN, as_d, hm, hz, ln, mx, md, fd, hr]
  · obtain ⟨r, hr, hrm⟩ := em x
    refine ⟨r, .lst [.lst (IL cs), .int i, .int (x / m), .int y] :: rest, ?_, hrm, cs, i, x / m, y, rest, rfl, hi, Int.ediv_nonneg hx (by omega), hc⟩
    generalize IL cs = L at *
    simp [f__law_take, mDef, List.replicate, b__law_take, q_ixL, asLst, atI, ixN, as_d, hm, md, fd, hr]
end K11
/-! # k11: words and wishes, of any value -/
namespace K11
open PySem PySem.Spec PyProof.Rows L2 MI
def SM : Str := "abcdefghijklmnopqrstuvwxyz"
def DG : Str := "0123456789"
def AN : Str := "abcdefghijklmnopqrstuvwxyz0123456789"
theorem an_eq : AN.cps.toList = SM.cps.toList ++ DG.cps.toList := by decide +kernel
def wsg (c : Nat) : Bool := decide (c ∈ AN.cps.toList)
theorem wsg_or (c : Nat) : wsg c = (decide (c ∈ SM.cps.toList) || decide (c ∈ DG.cps.toList)) := by
  unfold wsg
  rw [an_eq]
  by_cases h1 : c ∈ SM.cps.toList <;> by_cases h2 : c ∈ DG.cps.toList <;> simp [h1, h2]
/-- values that are asked -/
def Ok1 : D → Prop
  | .non => True
  | .bl _ => True
  | .int _ => True
  | .str x => x.length ≤ 1000
  | .tup xs => xs.length ≤ 1000
  | _ => False
def allW (x : Str) : Bool := x.cps.toList.all wsg
def isW : D → Bool
  | .str x => decide (1 ≤ x.length) && decide (x.length ≤ 20) && allW x
  | _ => false
theorem all_bls {ι : Type} (l : List ι) (f : ι → Bool) (s : S) : fAll s (.new (.lst (l.map fun i => D.bl (f i)))) = .ok (.d (.bl (l.all f))) s := by
  have e : (l.map fun i => D.bl (f i)) = (l.map f).map D.bl := by rw [List.map_map]; rfl
  have e2 : blsOf (l.map fun i => D.bl (f i)) = some (l.map f) := by rw [e, blsOf_map]
  unfold fAll
  show (match blsOf (l.map fun i => D.bl (f i)) with | some bs => _ | none => _) = _
  rw [e2]
  simp only [List.all_map]
  rfl
theorem opC_txt (c : Nat) (z : Str) (s : S) : opInC false s (.d (.str ⟨#[c]⟩)) (.d (.str z)) = .ok (.d (.bl (decide (c ∈ z.cps.toList)))) s := by
  unfold opInC
  simp [asStr]
theorem sign_spec (c : Nat) (gl : List MObj) : f_is_word_sign [.str ⟨#[c]⟩] gl = .ok (.bl (wsg c)) gl := by
  rw [wsg_or]
  have o1 : ∀ s, opInC false s (.d (.str ⟨#[c]⟩)) (.d (.str "abcdefghijklmnopqrstuvwxyz")) = .ok (.d (.bl (decide (c ∈ SM.cps.toList)))) s := fun s => opC_txt c SM s
  have o2 : ∀ s, opInC false s (.d (.str ⟨#[c]⟩)) (.d (.str "0123456789")) = .ok (.d (.bl (decide (c ∈ DG.cps.toList)))) s := fun s => opC_txt c DG s
  generalize decide (c ∈ SM.cps.toList) = b1 at *
  generalize decide (c ∈ DG.cps.toList) = b2 at *
  cases b1 <;> cases b2 <;> simp [f_is_word_sign, mDef, List.replicate, b_is_word_sign, o1, o2]
theorem isi_str (d : D) (h : Ok1 d) (s : S) : fIsi .str s (.d d) = .ok (.d (.bl (match d with | .str _ => true | _ => false))) s := by
  cases d <;> first | rfl | exact h.elim
theorem isi_tup (d : D) (h : Ok1 d) (s : S) : fIsi .tup s (.d d) = .ok (.d (.bl (match d with | .tup _ => true | _ => false))) s := by
  cases d <;> first | rfl | exact h.elim
theorem len_str (x : Str) (h : x.length ≤ 1000) (s : S) : fLen s (.d (.str x)) = .ok (.d (.int (x.length : Nat))) s := by
  unfold fLen
  simp only [asD, Option.bind_some, lenD]
  rw [if_pos (szN _ (by omega))]
theorem str_len (x : Str) : x.length = x.cps.toList.length := by unfold Str.length; simp
theorem is_word_spec (d : D) (h : Ok1 d) (gl : List MObj) : f_is_word [d] gl = .ok (.bl (isW d)) gl := by
  have is1 := isi_str d h
  cases d with
  | str x =>
    have h : x.length ≤ 1000 := h
    have ln := len_str x h
    have cm : mComp [1] (iStrM (mVar 0)) (tgName 1) mYes e_is_word_1 ⟨[.val (.str x), .none], gl⟩ = .ok (.new (.lst (x.cps.toList.map fun c => D.bl (wsg c)))) ⟨[.val (.str x), .none], gl⟩ := by
      refine comp_mapI x.cps.toList (fun c => .str ⟨#[c]⟩) (fun c => D.bl (wsg c)) (by simp [MI.signs]) (by simp) rfl (by rw [← str_len]; omega) fun c m => ?_
      simp [e_is_word_1, sign_spec]
    have al : ∀ s, fAll s _ = .ok (.d (.bl (allW x))) s := all_bls x.cps.toList wsg
    show _ = CRes.ok (.bl (decide (1 ≤ x.length) && decide (x.length ≤ 20) && allW x)) gl
    generalize allW x = A at *
    generalize (x.cps.toList.map fun c => D.bl (wsg c)) = L at *
    by_cases h1 : 1 ≤ x.length
    · by_cases h2 : x.length ≤ 20
      · have h1' : (1 : Int) ≤ x.length := by omega
        have h2' : (x.length : Int) ≤ 20 := by omega
        simp only at is1
        simp [-ap_Comp, f_is_word, mDef, List.replicate, b_is_word, is1, asD, truthD, ln, h1, h2, h1', h2', cm, al]
      · have h1' : (1 : Int) ≤ x.length := by omega
        have h2' : ¬ (x.length : Int) ≤ 20 := by omega
        simp only at is1
        simp [-ap_Comp, f_is_word, mDef, List.replicate, b_is_word, is1, asD, truthD, ln, h1, h2, h1', h2']
    · have h1' : ¬ (1 : Int) ≤ x.length := by omega
      simp only at is1
      simp [-ap_Comp, f_is_word, mDef, List.replicate, b_is_word, is1, asD, truthD, ln, h1, h1']
  | lst xs => exact h.elim
  | dic xs => exact h.elim
  | ref n => exact h.elim
  | scr xs => exact h.elim
  | _ => simp [f_is_word, mDef, List.replicate, b_is_word, is1, asD, truthD, isW]
theorem law_is_word_spec (d : D) (h : Ok1 d) (gl : List MObj) : f__law_is_word [d] gl = .ok (.bl (isW d)) gl := by
  have is1 := isi_str d h
  cases d with
  | str x =>
    have h : x.length ≤ 1000 := h
    have ln := len_str x h
    have cm : mComp [1] (iStrM (mVar 0)) (tgName 1) mYes e__law_is_word_1 ⟨[.val (.str x), .none], gl⟩ = .ok (.new (.lst (x.cps.toList.map fun c => D.bl (wsg c)))) ⟨[.val (.str x), .none], gl⟩ := by
      refine comp_mapI x.cps.toList (fun c => .str ⟨#[c]⟩) (fun c => D.bl (wsg c)) (by simp [MI.signs]) (by simp) rfl (by rw [← str_len]; omega) fun c m => ?_
      have o : ∀ s, opInC false s (.d (.str ⟨#[c]⟩)) (.d (.str "abcdefghijklmnopqrstuvwxyz0123456789")) = .ok (.d (.bl (wsg c))) s := fun s => opC_txt c AN s
      simp [e__law_is_word_1, o]
    have al : ∀ s, fAll s _ = .ok (.d (.bl (allW x))) s := all_bls x.cps.toList wsg
    show _ = CRes.ok (.bl (decide (1 ≤ x.length) && decide (x.length ≤ 20) && allW x)) gl
    generalize allW x = A at *
    generalize (x.cps.toList.map fun c => D.bl (wsg c)) = L at *
    by_cases h1 : 1 ≤ x.length
    · by_cases h2 : x.length ≤ 20
      · have h1' : (1 : Int) ≤ x.length := by omega
        have h2' : (x.length : Int) ≤ 20 := by omega
        simp only at is1
        simp [-ap_Comp, f__law_is_word, mDef, List.replicate, b__law_is_word, is1, ln, h1, h2, h1', h2', cm, al]
      · have h1' : (1 : Int) ≤ x.length := by omega
        have h2' : ¬ (x.length : Int) ≤ 20 := by omega
        simp only at is1
        simp [-ap_Comp, f__law_is_word, mDef, List.replicate, b__law_is_word, is1, ln, h1, h2, h1', h2']
    · have h1' : ¬ (1 : Int) ≤ x.length := by omega
      simp only at is1
      simp [-ap_Comp, f__law_is_word, mDef, List.replicate, b__law_is_word, is1, ln, h1, h1']
  | lst xs => exact h.elim
  | dic xs => exact h.elim
  | ref n => exact h.elim
  | scr xs => exact h.elim
  | _ => simp [f__law_is_word, mDef, List.replicate, b__law_is_word, is1, isW]
/-! ### ascending -/
theorem lt_le (x y : Str) : strLt x y = !leS y x := by unfold leS; simp
theorem lt_trans' {x y z : Str} (h : strLt x y = true) (h2 : strLt y z = true) : strLt x z = true := by
  rw [lt_le] at *
  simp only [Bool.not_eq_true'] at *
  by_cases q : leS z x = true
  · have t1 : leS y x = true := by
      have := leS_total y z
      rw [h2, Bool.or_false] at this
      exact leS_trans y z x this q
    rw [t1] at h
    cases h
  · simpa using q
theorem lt_irr (x : Str) : strLt x x = false := by
  rw [lt_le]
  have := leS_total x x
  rw [Bool.or_self] at this
  rw [this]
  rfl
theorem lt_of {x y : Str} (h : leS x y = true) (hn : x ≠ y) : strLt x y = true := by
  rw [lt_le]
  by_cases q : leS y x = true
  · exact absurd (leS_anti x y h q) hn
  · simpa using q
theorem le_of {x y : Str} (h : strLt x y = true) : leS x y = true := by
  have := leS_total x y
  rw [lt_le] at h
  simp only [Bool.not_eq_true'] at h
  rw [h, Bool.or_false] at this
  exact this
/-- neighbours ascend -/
def adj : List Str → Bool
  | [] => true
  | [_] => true
  | x :: y :: r => strLt x y && adj (y :: r)
theorem adj_pw : ∀ {l : List Str}, adj l = true → l.Pairwise fun x y => strLt x y = true
  | [], _ => .nil
  | [x], _ => List.pairwise_singleton _ _
  | x :: y :: r, h => by
    unfold adj at h
    obtain ⟨h1, h2⟩ := Bool.and_eq_true_iff.mp h
    have ih := adj_pw h2
    refine List.pairwise_cons.mpr ⟨fun z m => ?_, ih⟩
    rcases List.mem_cons.mp m with rfl | m
    · exact h1
    · exact lt_trans' h1 ((List.pairwise_cons.mp ih).1 z m)
theorem pw_adj : ∀ {l : List Str}, (l.Pairwise fun x y => strLt x y = true) → adj l = true
  | [], _ => rfl
  | [x], _ => rfl
  | x :: y :: r, h => by
    obtain ⟨h1, h2⟩ := List.pairwise_cons.mp h
    unfold adj
    rw [h1 y List.mem_cons_self, pw_adj h2]
    rfl
theorem pw_leS {l : List Str} (h : l.Pairwise fun x y => leS x y = true) (p : l.Perm m) : l = sortS m :=
  perm_sorted_eq (le := fun x y => leS x y = true) leS_anti (p.trans (sortS_perm m).symm) h (sortS_sorted m)
theorem adj_sort (l : List Str) : adj l = decide (l = sortS (uni l)) := by
  by_cases h : l = sortS (uni l)
  · rw [decide_eq_true h]
    have nd : l.Nodup := by
      have := (sortS_perm (uni l)).nodup_iff.mpr (uni_nodup l)
      rwa [← h] at this
    have pw : l.Pairwise fun x y => leS x y = true := by
      have := sortS_sorted (uni l)
      rwa [← h] at this
    refine pw_adj ?_
    have := List.Pairwise.and pw nd
    exact this.imp fun ⟨a, b⟩ => lt_of a b
  · rw [decide_eq_false h]
    by_cases q : adj l = true
    · exfalso
      have pw := adj_pw q
      have nd : l.Nodup := pw.imp fun {a b} z e => by rw [e, lt_irr] at z; cases z
      exact h (pw_leS (pw.imp fun z => le_of z) (uni_perm nd))
    · simpa using q
theorem adj_get : ∀ (l : List Str), adj l = ((List.range (l.length - 1)).all fun k => strLt (l.getD k "") (l.getD (k + 1) ""))
  | [] => rfl
  | [x] => rfl
  | x :: y :: r => by
    have ih := adj_get (y :: r)
    unfold adj
    rw [ih]
    have e : (x :: y :: r).length - 1 = (y :: r).length - 1 + 1 := by simp
    rw [e, List.range_succ_eq_map, List.all_cons, List.all_map]
    rfl
theorem asc_spec (l : List Str) (hl : l.length ≤ 1000) (gl : List MObj) : f_is_ascending [.tup (l.map .str)] gl = .ok (.bl (adj l)) gl := by
  have cm : mComp [1] (iRange1 (mACons (mBin opSub (mFn1 fLen (mVar 0)) (mC (.int 1))) mANil)) (tgName 1) mYes e_is_ascending_1 ⟨[.val (.tup (l.map .str)), .none], gl⟩ = .ok (.new (.lst ((List.range (l.length - 1)).map fun k => D.bl (strLt (l.getD k "") (l.getD (k + 1) ""))))) ⟨[.val (.tup (l.map .str)), .none], gl⟩ := by
    have rg : rng1 ((l.length : Int) - 1) = some (rangeD 0 (l.length - 1)) := by
      rw [rng1_eq, if_pos ⟨by omega, by omega⟩]
      congr 2
      omega
    have rd : ∀ (n lo : Nat), rangeD lo n = (List.range n).map fun k => D.int ((lo + k : Nat) : Int) := by
      intro n
      induction n with
      | zero => intro lo; rfl
      | succ n ih =>
        intro lo
        rw [rangeD, List.range_succ_eq_map, List.map_cons, List.map_map]
        have := ih (lo + 1)
        rw [show ((lo : Int) + 1) = ((lo + 1 : Nat) : Int) by omega, this]
        refine congrArg (List.cons _) (List.map_congr_left fun k _ => ?_)
        show D.int ((lo + 1 + k : Nat) : Int) = D.int ((lo + (k + 1) : Nat) : Int)
        rw [show lo + 1 + k = lo + (k + 1) by omega]
    have rd0 := rd (l.length - 1) 0
    simp only [Nat.zero_add, Int.natCast_zero] at rd0
    refine comp_mapI (List.range (l.length - 1)) (fun k => D.int (k : Int)) (fun k => D.bl (strLt (l.getD k "") (l.getD (k + 1) ""))) (by simp [rg, rd0]) (by simp) rfl (by rw [List.length_range]; omega) fun k m => ?_
    have hk : k + 1 < l.length := by have := List.mem_range.mp m; omega
    have g1 : l[k]? = some (l.getD k "") := by rw [List.getD_eq_getElem?_getD, List.getElem?_eq_getElem (show k < l.length by omega)]; rfl
    have g2 : l[k + 1]? = some (l.getD (k + 1) "") := by rw [List.getD_eq_getElem?_getD, List.getElem?_eq_getElem hk]; rfl
    generalize l.getD k "" = x at *
    generalize l.getD (k + 1) "" = y at *
    have i1 : ∀ s, opIx s (.d (.tup (l.map .str))) (.d (.int k)) = .ok (.d (.str x)) s := fun s => q_ixT (atI_get (by rw [List.getElem?_map, g1]; rfl))
    have i2 : ∀ s, opIx s (.d (.tup (l.map .str))) (.d (.int ((k : Int) + 1))) = .ok (.d (.str y)) s := fun s => q_ixT (by rw [show ((k : Int) + 1) = ((k + 1 : Nat) : Int) by omega]; exact atI_get (by rw [List.getElem?_map, g2]; rfl))
    have lt : ∀ s, opLt s (.d (.str x)) (.d (.str y)) = .ok (.d (.bl (strLt x y))) s := fun s => rfl
    generalize l.map D.str = L at *
    simp [e_is_ascending_1, i1, i2, lt]
  have al := all_bls (List.range (l.length - 1)) (fun k => strLt (l.getD k "") (l.getD (k + 1) ""))
  rw [← adj_get] at al
  generalize ((List.range (l.length - 1)).map fun k => D.bl (strLt (l.getD k "") (l.getD (k + 1) ""))) = C at *
  simp [-ap_Comp, f_is_ascending, mDef, List.replicate, b_is_ascending, cm, al]
end K11
/-! # k11: wishes; terms -/
namespace K11
open PySem PySem.Spec PyProof.Rows L2 MI
/-- values that are asked, and their parts -/
def Ok2 : D → Prop
  | .tup xs => xs.length ≤ 1000 ∧ ∀ x ∈ xs, Ok1 x
  | d => Ok1 d
theorem ok21 {d : D} (h : Ok2 d) : Ok1 d := by
  cases d <;> first | exact h | exact h.1
/-- the texts of a tuple of texts -/
def txs : List D → List Str
  | [] => []
  | .str x :: r => x :: txs r
  | _ :: r => txs r
theorem strs_of : ∀ {xs : List D}, xs.all isW = true → xs = (txs xs).map .str
  | [], _ => rfl
  | x :: r, h => by
    rw [List.all_cons, Bool.and_eq_true] at h
    cases x with
    | str x =>
      show D.str x :: r = D.str x :: (txs r).map .str
      rw [← strs_of h.2]
    | _ => exact absurd h.1 (by simp [isW])
theorem strsOf_map : ∀ ws : List Str, strsOf (ws.map .str) = some ws
  | [] => rfl
  | w :: ws => by
    rw [List.map_cons]
    unfold strsOf
    rw [strsOf_map ws]
    rfl
def wish (d : D) : Bool := match d with
  | .tup xs => decide (xs.length ≤ 8) && xs.all isW && adj (txs xs)
  | _ => false
def fine (d : D) : Bool := match d with
  | .tup xs => decide (xs.length ≤ 8) && xs.all isW
  | _ => false
theorem are_wishes_spec (d : D) (h : Ok2 d) (gl : List MObj) : f_are_wishes [d] gl = .ok (.bl (wish d)) gl := by
  have is1 := isi_tup d (ok21 h)
  cases d with
  | tup xs =>
    obtain ⟨hl, hx⟩ := h
    have cm : mComp [1] (iSeq (mVar 0)) (tgName 1) mYes e_are_wishes_1 ⟨[.val (.tup xs), .none], gl⟩ = .ok (.new (.lst (xs.map fun x => D.bl (isW x)))) ⟨[.val (.tup xs), .none], gl⟩ := by
      refine comp_mapI xs (fun x => x) (fun x => D.bl (isW x)) (by simp [iSeq]) (by simp) rfl (by omega) fun x m => ?_
      have w := fun gl => is_word_spec x (hx x m) gl
      simp [e_are_wishes_1, w]
    have al : ∀ s, fAll s (.new (.lst (xs.map fun x => D.bl (isW x)))) = .ok (.d (.bl (xs.all isW))) s := all_bls xs isW
    have ln : ∀ s, fLen s (.d (.tup xs)) = .ok (.d (.int xs.length)) s := fun s => rfl
    show _ = CRes.ok (.bl (decide (xs.length ≤ 8) && xs.all isW && adj (txs xs))) gl
    have key : xs.all isW = true → f_is_ascending [.tup xs] gl = .ok (.bl (adj (txs xs))) gl := fun hw => by
      have e := strs_of hw
      have l2 : (txs xs).length ≤ 1000 := by
        have : xs.length = (txs xs).length := by conv => lhs; rw [e, List.length_map]
        omega
      have := asc_spec (txs xs) l2 gl
      rwa [← e] at this
    generalize adj (txs xs) = B at *
    generalize (xs.map fun x => D.bl (isW x)) = L at *
    generalize xs.all isW = A at *
    by_cases h8 : xs.length ≤ 8
    · have h8' : ¬ (8 : Int) < xs.length := by omega
      cases A with
      | false => simp [-ap_Comp, f_are_wishes, mDef, List.replicate, b_are_wishes, is1, asD, truthD, ln, h8, h8', cm, al]
      | true =>
        have key := key rfl
        simp [-ap_Comp, f_are_wishes, mDef, List.replicate, b_are_wishes, is1, asD, truthD, ln, h8, h8', cm, al, key]
    · have h8' : (8 : Int) < xs.length := by omega
      simp [-ap_Comp, f_are_wishes, mDef, List.replicate, b_are_wishes, is1, asD, truthD, ln, h8, h8']
  | lst xs => exact h.elim
  | dic xs => exact h.elim
  | ref n => exact h.elim
  | scr xs => exact h.elim
  | _ => simp [f_are_wishes, mDef, List.replicate, b_are_wishes, is1, asD, truthD, wish]
end K11
/-! # k11: what is a wish, by the law -/
namespace K11
open PySem PySem.Spec PyProof.Rows L2 MI
theorem fc_ok {t : D → S → Option S} {p : S → Res Out} {d : D} {ds : List D} {s s1 s2 : S} (h : t d s = some s1) (h2 : p s1 = .ok .nx s2) : forGo t p (d :: ds) s = forGo t p ds s2 := by
  rw [forGo_cons, h]
  simp only [h2]
theorem fc_ret {t : D → S → Option S} {p : S → Res Out} {d v : D} {ds : List D} {s s1 s2 : S} (h : t d s = some s1) (h2 : p s1 = .ok (.rt v) s2) : forGo t p (d :: ds) s = .ok (.rt v) s2 := by
  rw [forGo_cons, h]
  simp only [h2]
theorem eqAll_str {m : Nat} : ∀ (a b : List Str), eqAll (eqvO m) (a.map D.str) (b.map D.str) = some (decide (a = b))
  | [], [] => by simp [eqAll]
  | [], _ :: _ => by simp [eqAll]
  | _ :: _, [] => by simp [eqAll]
  | x :: xs, y :: ys => by
    have e : eqvO m (.str x) (.str y) = some (x == y) := by cases m <;> simp [eqvO, eqS]
    simp only [List.map_cons, eqAll, e, eqAll_str xs ys, List.cons.injEq]
    by_cases h1 : x = y <;> by_cases h2 : xs = ys <;> simp [h1, h2]
theorem q_eqLS {s : S} {a b : List Str} : opEq false s (.d (.lst (a.map D.str))) (.new (.lst (b.map D.str))) = .ok (.d (.bl (decide (a = b)))) s := by
  have h : eqvO 40 (.lst (a.map D.str)) (.lst (b.map D.str)) = some (decide (a = b)) := eqAll_str a b
  have e1 : asD s (.d (.lst (a.map D.str))) = some (.lst (a.map D.str)) := rfl
  have e2 : asD s (.new (.lst (b.map D.str))) = some (.lst (b.map D.str)) := rfl
  unfold opEq
  rw [e1, e2]
  simp only [h]
  simp
theorem ssT_at {ks : List Str} (hl : ks.length ≤ 1000) {s : S} : fSortedSetT s (.d (.tup (ks.map .str))) = .ok (.new (.lst ((sortS (uni ks)).map .str))) s := by
  have e1 : asD s (.d (.tup (ks.map D.str))) = some (.tup (ks.map .str)) := rfl
  unfold fSortedSetT
  rw [e1]
  simp only [strsOf_map]
  rw [if_pos hl]
theorem ss_at {ks : List Str} (hl : ks.length ≤ 1000) {s : S} : fSortedSet s (.new (.lst (ks.map .str))) = .ok (.new (.lst ((sortS (uni ks)).map .str))) s := by
  have e1 : asD s (.new (.lst (ks.map D.str))) = some (.lst (ks.map .str)) := rfl
  unfold fSortedSet
  rw [e1]
  simp only [strsOf_map]
  rw [if_pos hl]
theorem fine_step (c0 c2 c3 c4 c5 c6 c7 c8 c9 c10 c11 c12 c14 c15 c16 c17 c18 c19 c20 c22 c23 : Slot) (c21 : Slot) (d : D) (h : Ok2 d) (gl : List MObj) : l_law_3 ⟨[c0, .val (.ref 0), c2, c3, c4, c5, c6, c7, c8, c9, c10, c11, c12, .val d, c14, c15, c16, c17, c18, c19, c20, c21, c22, c23, .none, .none], gl⟩ = .ok .nx ⟨[c0, .val (.ref 0), c2, c3, c4, c5, c6, c7, c8, c9, c10, c11, c12, .val d, c14, c15, c16, c17, c18, c19, c20, .val (.bl (fine d)), c22, c23, .none, .none], gl⟩ := by
  have aw := are_wishes_spec d h gl
  have is1 := isi_tup d (ok21 h)
  have sm : ∀ b, f__law_same 6 [.bl b, .bl b] gl = .ok (.bl true) gl := fun b => same_refl gl 6 (.bl b) (.bl _ _)
  cases d with
  | tup xs =>
    obtain ⟨hl, hx⟩ := h
    have cm : mComp [25] (iSeq (mVar 13)) (tgName 25) mYes e_law_2 ⟨[c0, .val (.ref 0), c2, c3, c4, c5, c6, c7, c8, c9, c10, c11, c12, .val (.tup xs), c14, c15, c16, c17, c18, c19, c20, c21, c22, c23, .none, .none], gl⟩ = .ok (.new (.lst (xs.map fun x => D.bl (isW x)))) ⟨[c0, .val (.ref 0), c2, c3, c4, c5, c6, c7, c8, c9, c10, c11, c12, .val (.tup xs), c14, c15, c16, c17, c18, c19, c20, c21, c22, c23, .none, .none], gl⟩ := by
      refine comp_mapI xs (fun x => x) (fun x => D.bl (isW x)) (by simp [iSeq]) (by simp) rfl (by omega) fun x m => ?_
      have w := fun gl => law_is_word_spec x (hx x m) gl
      simp [e_law_2, w]
    have al : ∀ s, fAll s (.new (.lst (xs.map fun x => D.bl (isW x)))) = .ok (.d (.bl (xs.all isW))) s := all_bls xs isW
    have ln : ∀ s, fLen s (.d (.tup xs)) = .ok (.d (.int xs.length)) s := fun s => rfl
    have fl : ∀ s, fList s (.d (.tup xs)) = .ok (.new (.lst xs)) s := fun s => rfl
    have key : xs.all isW = true → ∃ z, (∀ s, fSortedSetT s (.d (.tup xs)) = .ok (.new z) s) ∧ ∀ s, opEq false s (.d (.lst xs)) (.new z) = .ok (.d (.bl (adj (txs xs)))) s := fun hw => by
      have e := strs_of hw
      have l2 : (txs xs).length ≤ 1000 := by
        have : xs.length = (txs xs).length := by conv => lhs; rw [e, List.length_map]
        omega
      refine ⟨.lst ((sortS (uni (txs xs))).map .str), fun s => ?_, fun s => ?_⟩
      · have := ssT_at l2 (s := s)
        rwa [← e] at this
      · have := q_eqLS (s := s) (a := txs xs) (b := sortS (uni (txs xs)))
        rw [← e, ← adj_sort] at this
        exact this
    have aw : f_are_wishes [.tup xs] gl = .ok (.bl (decide (xs.length ≤ 8) && xs.all isW && adj (txs xs))) gl := aw
    show _ = Res.ok Out.nx ⟨[c0, .val (.ref 0), c2, c3, c4, c5, c6, c7, c8, c9, c10, c11, c12, .val (.tup xs), c14, c15, c16, c17, c18, c19, c20, .val (.bl (decide (xs.length ≤ 8) && xs.all isW)), c22, c23, .none, .none], gl⟩
    generalize adj (txs xs) = B at *
    generalize (xs.map fun x => D.bl (isW x)) = L at *
    generalize xs.all isW = A at *
    by_cases h8 : xs.length ≤ 8
    · have h8' : (xs.length : Int) ≤ 8 := by omega
      cases A with
      | false =>
        simp [h8] at aw
        simp [-ap_Comp, l_law_3, is1, ln, h8, h8', cm, al, as_d, aw, sm, asD, truthD]
      | true =>
        obtain ⟨z, k1, k2⟩ := key rfl
        simp [h8] at aw
        simp [-ap_Comp, l_law_3, is1, ln, h8, h8', cm, al, as_d, aw, sm, asD, truthD, fl, k1, k2]
    · have h8' : ¬ (xs.length : Int) ≤ 8 := by omega
      simp [h8] at aw
      simp [-ap_Comp, l_law_3, is1, ln, h8, h8', as_d, aw, sm, asD, truthD]
  | lst xs => exact h.elim
  | dic xs => exact h.elim
  | ref n => exact h.elim
  | scr xs => exact h.elim
  | _ =>
    simp only [wish] at aw
    simp [l_law_3, is1, as_d, aw, sm, asD, truthD, fine]
theorem fine_loop (c0 c2 c3 c4 c5 c6 c7 c8 c9 c10 c11 c12 c14 c15 c16 c17 c18 c19 c20 c22 c23 : Slot) : ∀ (L : List D) (gl : List MObj) (c13 c21 : Slot), (∀ d ∈ L, Ok2 d) → ∃ d13 d21, forGo (tgName 13) l_law_3 L ⟨[c0, .val (.ref 0), c2, c3, c4, c5, c6, c7, c8, c9, c10, c11, c12, c13, c14, c15, c16, c17, c18, c19, c20, c21, c22, c23, .none, .none], gl⟩ = .ok .nx ⟨[c0, .val (.ref 0), c2, c3, c4, c5, c6, c7, c8, c9, c10, c11, c12, d13, c14, c15, c16, c17, c18, c19, c20, d21, c22, c23, .none, .none], gl⟩
  | [], gl, c13, c21, _ => ⟨c13, c21, rfl⟩
  | d :: L, gl, c13, c21, h => by
    obtain ⟨d13, d21, w⟩ := fine_loop c0 c2 c3 c4 c5 c6 c7 c8 c9 c10 c11 c12 c14 c15 c16 c17 c18 c19 c20 c22 c23 L gl (.val d) (.val (.bl (fine d))) (fun x m => h x (List.mem_cons_of_mem _ m))
    refine ⟨d13, d21, ?_⟩
    exact (fc_ok (by rw [ap_tgName, as_d (by simp)]; rfl) (fine_step c0 c2 c3 c4 c5 c6 c7 c8 c9 c10 c11 c12 c14 c15 c16 c17 c18 c19 c20 c22 c23 c21 d (h d List.mem_cons_self) gl)).trans w
/-! ### terms -/
structure En where
  a : Str
  o : Str
  l : Int
def enD (e : En) : D := .tup [.str e.a, .str e.o, .int e.l]
def EnOk (e : En) : Prop := e.a.length ≤ 1000 ∧ e.o.length ≤ 1000
def turnW (w : Str) : List En → Str
  | [] => w
  | e :: es => if e.l ≤ (w.length : Int) - e.a.length ∧ cutS w (some ((w.length : Int) - e.a.length)) none = e.a then cutS w none (some ((w.length : Int) - e.a.length)) ++ e.o else turnW w es
theorem cutS_len (z : Str) (lo hi : Option Int) : (cutS z lo hi).length ≤ z.length := by
  unfold cutS
  rw [str_len, str_len]
  simp only [List.length_take, List.length_drop]
  omega
theorem sl_str (z : Str) (h : z.length ≤ 1000) (lo hi : Option Int) (s : S) : opSl lo hi s (.d (.str z)) = .ok (.d (.str (cutS z lo hi))) s := by
  unfold opSl
  simp only [asTup, asLst, asScr, asStr]
  rw [if_pos (szN _ (by omega))]
theorem add_str (x y : Str) (h : x.length ≤ 1000) (h2 : y.length ≤ 1000) (s : S) : opAdd s (.d (.str x)) (.d (.str y)) = .ok (.d (.str (x ++ y))) s := by
  have h : x.length + y.length ≤ sizeLine := szN _ (by omega)
  simp only [opAdd, orF, opAddI, fI, asInt, opAddS, asStr, h, if_true]
theorem eq_str (x y : Str) (s : S) : opEq false s (.d (.str x)) (.d (.str y)) = .ok (.d (.bl (decide (x = y)))) s := by
  have : (x == y) = decide (x = y) := by by_cases h : x = y <;> simp [h]
  simp [opEq, asD, eqvO, eqS, this]
theorem turned_loop (w : Str) (hw : w.length ≤ 1000) (c0 : Slot) (gl : List MObj) : ∀ (es : List En) (c2 c3 c4 c5 : Slot), (∀ e ∈ es, EnOk e) →
    ∃ c2' c3' c4' c5' o, forGo (tgTup [2, 3, 4]) l_turned_word_1 (es.map enD) ⟨[c0, .val (.str w), c2, c3, c4, c5], gl⟩ = .ok o ⟨[c0, .val (.str w), c2', c3', c4', c5'], gl⟩ ∧ (o = .rt (.str (turnW w es)) ∨ (o = .nx ∧ turnW w es = w))
  | [], c2, c3, c4, c5, _ => ⟨c2, c3, c4, c5, .nx, rfl, .inr ⟨rfl, rfl⟩⟩
  | e :: es, c2, c3, c4, c5, h => by
    obtain ⟨h1, h2⟩ := h e List.mem_cons_self
    have l1 := len_str w hw
    have l2 := len_str e.a h1
    have sl := fun lo hi s => sl_str w hw lo hi s
    have eq := fun x s => eq_str x e.a s
    have cl := cutS_len w none (some ((w.length : Int) - e.a.length))
    have ad := add_str (cutS w none (some ((w.length : Int) - e.a.length))) e.o (by omega) h2
    have t1 : tgTup [2, 3, 4] (enD e) ⟨[c0, .val (.str w), c2, c3, c4, c5], gl⟩ = some ⟨[c0, .val (.str w), .val (.str e.a), .val (.str e.o), .val (.int e.l), c5], gl⟩ := by simp [enD, as_d]
    rw [List.map_cons]
    unfold turnW
    by_cases hc : e.l ≤ (w.length : Int) - e.a.length ∧ cutS w (some ((w.length : Int) - e.a.length)) none = e.a
    · refine ⟨_, _, _, _, _, fc_ret t1 (s2 := ⟨[c0, .val (.str w), .val (.str e.a), .val (.str e.o), .val (.int e.l), .val (.int ((w.length : Int) - e.a.length))], gl⟩) (v := .str (cutS w none (some ((w.length : Int) - e.a.length)) ++ e.o)) ?_, .inl (by rw [if_pos hc])⟩
      simp [l_turned_word_1, l1, l2, as_d, hc.1, hc.2, asInt, sl, eq, ad]
    · obtain ⟨d2, d3, d4, d5, o, w1, w2⟩ := turned_loop w hw c0 gl es (.val (.str e.a)) (.val (.str e.o)) (.val (.int e.l)) (.val (.int ((w.length : Int) - e.a.length))) (fun x m => h x (List.mem_cons_of_mem _ m))
      refine ⟨d2, d3, d4, d5, o, (fc_ok t1 ?_).trans w1, by rw [if_neg hc]; exact w2⟩
      by_cases q : e.l ≤ (w.length : Int) - e.a.length
      · have q2 : ¬ cutS w (some ((w.length : Int) - e.a.length)) none = e.a := fun z => hc ⟨q, z⟩
        simp [l_turned_word_1, l1, l2, as_d, q, q2, asInt, sl, eq]
      · simp [l_turned_word_1, l1, l2, as_d, q]
theorem law_loop (w : Str) (hw : w.length ≤ 1000) (c0 : Slot) (gl : List MObj) : ∀ (es : List En) (c2 c3 c4 : Slot), (∀ e ∈ es, EnOk e) →
    ∃ c2' c3' c4' o, forGo (tgTup [2, 3, 4]) l__law_term_1 (es.map enD) ⟨[c0, .val (.str w), c2, c3, c4], gl⟩ = .ok o ⟨[c0, .val (.str w), c2', c3', c4'], gl⟩ ∧ (o = .rt (.str (turnW w es)) ∨ (o = .nx ∧ turnW w es = w))
  | [], c2, c3, c4, _ => ⟨c2, c3, c4, .nx, rfl, .inr ⟨rfl, rfl⟩⟩
  | e :: es, c2, c3, c4, h => by
    obtain ⟨h1, h2⟩ := h e List.mem_cons_self
    have l1 := len_str w hw
    have l2 := len_str e.a h1
    have sl := fun lo hi s => sl_str w hw lo hi s
    have eq := fun x s => eq_str x e.a s
    have cl := cutS_len w none (some ((w.length : Int) - e.a.length))
    have ad := add_str (cutS w none (some ((w.length : Int) - e.a.length))) e.o (by omega) h2
    have t1 : tgTup [2, 3, 4] (enD e) ⟨[c0, .val (.str w), c2, c3, c4], gl⟩ = some ⟨[c0, .val (.str w), .val (.str e.a), .val (.str e.o), .val (.int e.l)], gl⟩ := by simp [enD, as_d]
    rw [List.map_cons]
    unfold turnW
    have ge : ∀ s, opGe s (.d (.int w.length)) (.d (.int ((e.a.length : Int) + e.l))) = .ok (.d (.bl (decide (e.l ≤ (w.length : Int) - e.a.length)))) s := fun s => by
      rw [q_ge]
      have : ((e.a.length : Int) + e.l ≤ w.length) = (e.l ≤ (w.length : Int) - e.a.length) := propext ⟨fun z => by omega, fun z => by omega⟩
      simp only [this]
    by_cases hc : e.l ≤ (w.length : Int) - e.a.length ∧ cutS w (some ((w.length : Int) - e.a.length)) none = e.a
    · refine ⟨_, _, _, _, fc_ret t1 (s2 := ⟨[c0, .val (.str w), .val (.str e.a), .val (.str e.o), .val (.int e.l)], gl⟩) (v := .str (cutS w none (some ((w.length : Int) - e.a.length)) ++ e.o)) ?_, .inl (by rw [if_pos hc])⟩
      simp [-q_ge, l__law_term_1, l1, l2, ge, hc.1, hc.2, asInt, sl, eq, ad]
    · obtain ⟨d2, d3, d4, o, w1, w2⟩ := law_loop w hw c0 gl es (.val (.str e.a)) (.val (.str e.o)) (.val (.int e.l)) (fun x m => h x (List.mem_cons_of_mem _ m))
      refine ⟨d2, d3, d4, o, (fc_ok t1 ?_).trans w1, by rw [if_neg hc]; exact w2⟩
      by_cases q : e.l ≤ (w.length : Int) - e.a.length
      · have q2 : ¬ cutS w (some ((w.length : Int) - e.a.length)) none = e.a := fun z => hc ⟨q, z⟩
        simp [-q_ge, l__law_term_1, l1, l2, ge, q, q2, asInt, sl, eq]
      · simp [-q_ge, l__law_term_1, l1, l2, ge, q]
theorem anyO_str (k : Str) : ∀ l : List Str, anyO (fun y => eqvO 40 y (.str k)) (l.map .str) = some (decide (k ∈ l))
  | [] => rfl
  | a :: l => by
    show (match eqvO 40 (.str a) (.str k), anyO (fun y => eqvO 40 y (.str k)) (l.map .str) with | some a, some b => some (a || b) | _, _ => none) = _
    rw [anyO_str k l]
    have : eqvO 40 (.str a) (.str k) = some (a == k) := by simp [eqvO, eqS]
    rw [this]
    simp only [Option.some.injEq]
    by_cases h : a = k
    · subst h; simp
    · have h' : ¬ k = a := fun z => h z.symm
      simp [h, h']
theorem in_str (k : Str) (l : List Str) (s : S) : opIn false s (.d (.str k)) (.d (.tup (l.map .str))) = .ok (.d (.bl (decide (k ∈ l)))) s := by
  have h : asItems s (.d (.tup (l.map .str))) = some (l.map .str) := rfl
  have h2 : asD s (.d (.str k)) = some (.str k) := rfl
  unfold opIn
  rw [h, h2]
  show (match anyO (fun y => eqvO 40 y (.str k)) (l.map .str) with | some r => Res.ok (RV.d (.bl (r != false))) s | none => .stuck) = _
  rw [anyO_str]
  simp
structure Ru where
  st : List Str
  en : List En
def ruD (r : Ru) : D := .tup [.tup (r.st.map .str), .tup (r.en.map enD)]
def RuOk (r : Ru) : Prop := ∀ e ∈ r.en, EnOk e
def termO (r : Ru) (w : Str) : Option Str := if w ∈ r.st then none else some (turnW w r.en)
def oD : Option Str → D
  | none => .non
  | some x => .str x
theorem term_spec (r : Ru) (hr : RuOk r) (w : Str) (hw : w.length ≤ 1000) (gl : List MObj) : f_term_of [ruD r, .str w] gl = .ok (oD (termO r w)) gl := by
  have i0 : ∀ s, opIx s (.d (ruD r)) (.d (.int 0)) = .ok (.d (.tup (r.st.map .str))) s := fun s => q_ixT rfl
  have i1 : ∀ s, opIx s (.d (ruD r)) (.d (.int 1)) = .ok (.d (.tup (r.en.map enD))) s := fun s => q_ixT rfl
  have ins := in_str w r.st
  obtain ⟨d2, d3, d4, d5, o, w1, w2⟩ := turned_loop w hw (.val (.tup (r.en.map enD))) gl r.en .none .none .none .none hr
  have tw : f_turned_word [.tup (r.en.map enD), .str w] gl = .ok (.str (turnW w r.en)) gl := by
    generalize r.en.map enD = L at w1 ⊢
    rcases w2 with rfl | ⟨rfl, e⟩
    · simp [f_turned_word, mDef, List.replicate, b_turned_word, w1]
    · rw [e]
      simp [f_turned_word, mDef, List.replicate, b_turned_word, w1]
  unfold termO
  generalize ruD r = R at *
  generalize r.st.map D.str = L1 at *
  generalize r.en.map enD = L2 at *
  by_cases h : w ∈ r.st
  · simp [f_term_of, mDef, List.replicate, b_term_of, i0, ins, h, oD]
  · simp [f_term_of, mDef, List.replicate, b_term_of, i0, i1, ins, h, oD, tw]
theorem law_term_spec (r : Ru) (hr : RuOk r) (w : Str) (hw : w.length ≤ 1000) (gl : List MObj) : f__law_term [ruD r, .str w] gl = .ok (oD (termO r w)) gl := by
  have i0 : ∀ s, opIx s (.d (ruD r)) (.d (.int 0)) = .ok (.d (.tup (r.st.map .str))) s := fun s => q_ixT rfl
  have i1 : ∀ s, opIx s (.d (ruD r)) (.d (.int 1)) = .ok (.d (.tup (r.en.map enD))) s := fun s => q_ixT rfl
  have ins := in_str w r.st
  obtain ⟨d2, d3, d4, o, w1, w2⟩ := law_loop w hw (.val (ruD r)) gl r.en .none .none .none hr
  unfold termO
  generalize ruD r = R at *
  generalize r.st.map D.str = L1 at *
  generalize r.en.map enD = L2 at *
  by_cases h : w ∈ r.st
  · simp [f__law_term, mDef, List.replicate, b__law_term, i0, ins, h, oD]
  · rcases w2 with rfl | ⟨rfl, e⟩
    · simp [f__law_term, mDef, List.replicate, b__law_term, i0, i1, ins, h, oD, w1]
    · rw [e]
      simp [f__law_term, mDef, List.replicate, b__law_term, i0, i1, ins, h, oD, w1]
end K11
/-! # k11: rules, words, wishes that are drawn; spoilt ones -/
namespace K11
open PySem PySem.Spec PyProof.Rows L2 MI
theorem pick_go {v : Nat} {cond : S → Res Bool} {env : List Slot} {P : List MObj → Prop} (hv : v < env.length) : ∀ (ds acc : List D) (gl : List MObj), P gl → acc.length + ds.length ≤ sizeLine →
    (∀ d ∈ ds, ∀ gl, P gl → ∃ b gl', cond ⟨env.set v (.val d), gl⟩ = .ok b ⟨env.set v (.val d), gl'⟩ ∧ P gl') →
    ∃ ys gl', compGo [v] (tgName v) cond (mLeak (mVar v)) ds acc ⟨env.set v .none, gl⟩ = some (acc ++ ys, ⟨env.set v .none, gl'⟩) ∧ P gl' ∧ ys.Sublist ds
  | [], acc, gl, hP, _, _ => ⟨[], gl, by simp [compGo], hP, .slnil⟩
  | d :: ds, acc, gl, hP, hl, he => by
    obtain ⟨b, gl1, c1, P1⟩ := he d List.mem_cons_self gl hP
    simp only [List.length_cons] at hl
    have hz : acc.length < sizeLine := by omega
    have ta : tgName v d ⟨env.set v .none, gl⟩ = some ⟨env.set v (.val d), gl⟩ := by
      rw [ap_tgName, as_d (by simpa using hv), List.set_set]
    have e1 : mLeak (mVar v) ⟨env.set v (.val d), gl1⟩ = .ok d ⟨env.set v (.val d), gl1⟩ := by
      rw [ap_Leak, q_var_val (by rw [List.getElem?_set_self hv])]
      rfl
    unfold compGo
    rw [ta]
    simp only [c1]
    cases b with
    | true =>
      obtain ⟨ys, gl', w, P', hs⟩ := pick_go hv ds (acc ++ [d]) gl1 P1 (by simp; omega) fun x m => he x (List.mem_cons_of_mem _ m)
      refine ⟨d :: ys, gl', ?_, P', .cons_cons _ hs⟩
      simp only [if_true, e1, hz]
      show compGo [v] (tgName v) cond (mLeak (mVar v)) ds (acc ++ [d]) ⟨(env.set v (.val d)).set v .none, gl1⟩ = _
      rw [List.set_set, w]
      simp
    | false =>
      obtain ⟨ys, gl', w, P', hs⟩ := pick_go hv ds acc gl1 P1 (by omega) fun x m => he x (List.mem_cons_of_mem _ m)
      refine ⟨ys, gl', ?_, P', .cons _ hs⟩
      simp only [Bool.false_eq_true, if_false]
      show compGo [v] (tgName v) cond (mLeak (mVar v)) ds acc ⟨(env.set v (.val d)).set v .none, gl1⟩ = _
      rw [List.set_set, w]
theorem comp_pick {v : Nat} {cond : S → Res Bool} {env : List Slot} {gl : List MObj} {P : List MObj → Prop} {it : S → Res (List D)} {s0 : S} {ds : List D} (hi : it s0 = .ok ds ⟨env, gl⟩) (hv : v < env.length) (ho : noOwn env [v] = true) (hP : P gl) (hl : ds.length ≤ 1000)
    (he : ∀ d ∈ ds, ∀ gl, P gl → ∃ b gl', cond ⟨env.set v (.val d), gl⟩ = .ok b ⟨env.set v (.val d), gl'⟩ ∧ P gl') :
    ∃ ys gl', mComp [v] it (tgName v) cond (mVar v) s0 = .ok (.new (.lst ys)) ⟨env, gl'⟩ ∧ P gl' ∧ ys.Sublist ds := by
  obtain ⟨ys, gl', h1, h2, h3⟩ := pick_go hv ds [] gl hP (by simpa using szN _ (by omega)) he
  refine ⟨ys, gl', ?_, h2, h3⟩
  rw [ap_Comp, hi, Res.bind_ok, if_pos ho]
  show (match compGo [v] (tgName v) cond (mLeak (mVar v)) ds [] ⟨env.set v .none, gl⟩ with | some (acc, s2) => Res.ok (RV.new (.lst acc)) ⟨restE env s2.env [v], s2.gl⟩ | none => .stuck) = _
  rw [h1]
  show Res.ok (RV.new (.lst ([] ++ ys))) (⟨restE env (env.set v .none) [v], gl'⟩ : S) = _
  rw [restE_one hv, List.nil_append]
/-! ### rules -/
theorem ft_new (l : List D) (s : S) : fTuple s (.new (.lst l)) = .ok (.d (.tup l)) s := rfl
theorem rules_spec (gl : List MObj) (hB : Tp gl) : ∃ r gl', f__law_rules [.ref 0] gl = .ok (ruD r) gl' ∧ Tp gl' ∧ RuOk r := by
  have cq : ∀ (c : S → Res Bool), c = mBl (mBin (opEq false) (mCall f__law_take (mACons (mVar 0) (mACons (mC (.int 2)) mANil))) (mC (.int 0))) → ∀ (env : List Slot) (gl : List MObj), env[0]? = some (.val (.ref 0)) → Tp gl → ∃ b gl', c ⟨env, gl⟩ = .ok b ⟨env, gl'⟩ ∧ Tp gl' := fun c hc env gl h0 hB => by
    obtain ⟨r, gl', d1, r1, B1⟩ := take_spec gl 2 hB (by omega) (by omega)
    have d1 : f__law_take [.ref 0, .int 2] gl = .ok (.int r) gl' := d1
    refine ⟨((r : Int) == 0), gl', ?_, B1⟩
    subst hc
    simp [h0, d1]
  obtain ⟨y1, gl1, w1, B1, s1⟩ := comp_pick (v := 3) (cond := c__law_rules_2) (env := [.val (.ref 0), .none, .none, .none, .none]) (gl := gl) (P := Tp) (it := iSeq (mTup (mACons (mC (.str "a")) (mACons (mC (.str "of")) (mACons (mC (.str "the")) mANil))))) (s0 := ⟨[.val (.ref 0), .none, .none, .none, .none], gl⟩) (ds := (["a", "of", "the"] : List Str).map D.str)
    (by simp [iSeq]) (by simp) rfl hB (by simp) (fun d m gl hB => cq _ rfl _ gl rfl hB)
  have w1 : mComp [3] (iSeq (mTup (mACons (mC (.str "a")) (mACons (mC (.str "of")) (mACons (mC (.str "the")) mANil))))) (tgName 3) c__law_rules_2 (mVar 3) ⟨[.val (.ref 0), .none, .none, .none, .none], gl⟩ = .ok (.new (.lst y1)) ⟨[.val (.ref 0), .none, .none, .none, .none], gl1⟩ := w1
  obtain ⟨y2, gl2, w2, B2, s2⟩ := comp_pick (v := 4) (cond := c__law_rules_1) (env := [.val (.ref 0), .val (.tup y1), .none, .none, .none]) (gl := gl1) (P := Tp) (it := iSeq (mTup (mACons (mTup (mACons (mC (.str "ing")) (mACons (mC (.str "")) (mACons (mC (.int 3)) mANil)))) (mACons (mTup (mACons (mC (.str "ies")) (mACons (mC (.str "y")) (mACons (mC (.int 1)) mANil)))) (mACons (mTup (mACons (mC (.str "s")) (mACons (mC (.str "")) (mACons (mC (.int 2)) mANil)))) mANil))))) (s0 := ⟨[.val (.ref 0), .val (.tup y1), .none, .none, .none], gl1⟩) (ds := ([⟨"ing", "", 3⟩, ⟨"ies", "y", 1⟩, ⟨"s", "", 2⟩] : List En).map enD)
    (by simp [iSeq, enD]) (by simp) rfl B1 (by simp) (fun d m gl hB => cq _ rfl _ gl rfl hB)
  obtain ⟨st, hst, e1⟩ := List.sublist_map_iff.mp s1
  obtain ⟨en, hen, e2⟩ := List.sublist_map_iff.mp s2
  refine ⟨⟨st, en⟩, gl2, ?_, B2, fun e m => ?_⟩
  · show f__law_rules [.ref 0] gl = .ok (.tup [.tup (st.map D.str), .tup (en.map enD)]) gl2
    rw [← e1, ← e2]
    simp [-ap_Comp, f__law_rules, mDef, List.replicate, b__law_rules, w1, ft_new, as_d, w2]
  · have := hen.subset m
    simp only [List.mem_cons, List.not_mem_nil, or_false] at this
    rcases this with rfl | rfl | rfl <;> exact ⟨by decide, by decide⟩
/-! ### words -/
def WDS : List Str := ["cat", "cats", "dog", "dogs", "run", "a", "the", "x2"]
theorem word_spec (gl : List MObj) (hB : Tp gl) : ∃ w gl', f__law_word [.ref 0] gl = .ok (.str w) gl' ∧ Tp gl' ∧ w.length ≤ 1000 := by
  obtain ⟨r, gl', d1, r1, B1⟩ := take_spec gl 8 hB (by omega) (by omega)
  have d1 : f__law_take [.ref 0, .int 8] gl = .ok (.int r) gl' := d1
  obtain ⟨w, hw⟩ : ∃ w, WDS[r]? = some w := ⟨_, List.getElem?_eq_getElem (show r < WDS.length from r1)⟩
  have ix : ∀ s, opIx s (.d (.lst [.str "cat", .str "cats", .str "dog", .str "dogs", .str "run", .str "a", .str "the", .str "x2"])) (.d (.int r)) = .ok (.d (.str w)) s := fun s => q_ixL rfl (atI_get (by
    show (WDS.map D.str)[r]? = _
    rw [List.getElem?_map, hw]
    rfl))
  have sz8 : 8 ≤ sizeLine := szN _ (by omega)
  refine ⟨w, gl', ?_, B1, ?_⟩
  · simp [f__law_word, mDef, List.replicate, b__law_word, sz8, d1, ix]
  · have : ∀ w ∈ WDS, w.length ≤ 1000 := by decide
    exact this w (List.mem_of_getElem? hw)
theorem words_of {ds ys : List D} (h : All2 (fun _ y => ∃ w : Str, y = .str w ∧ w.length ≤ 1000) ds ys) : ∃ ws : List Str, ys = ws.map .str ∧ ws.length = ds.length ∧ ∀ w ∈ ws, w.length ≤ 1000 := by
  induction h with
  | nil => exact ⟨[], rfl, rfl, fun w m => nomatch m⟩
  | cons r _ ih =>
    obtain ⟨w, rfl, hw⟩ := r
    obtain ⟨ws, rfl, hl, hm⟩ := ih
    refine ⟨w :: ws, rfl, by simp [hl], fun x m => ?_⟩
    rcases List.mem_cons.mp m with rfl | m
    · exact hw
    · exact hm x m
/-! ### spoilt -/
def baseL : List D := [.non, .tup [], .int 0, .int 1, .bl true, .bl false, .str "a", .int (-1), .tup [.int 0], .tup [.tup [.int 0, .int 0]]]
theorem base_ok : ∀ y ∈ baseL, Ok2 y := by
  intro y m
  unfold baseL at m
  simp only [List.mem_cons, List.not_mem_nil, or_false] at m
  rcases m with rfl | rfl | rfl | rfl | rfl | rfl | rfl | rfl | rfl | rfl
  · exact trivial
  · exact ⟨by simp, fun x m => nomatch m⟩
  · exact trivial
  · exact trivial
  · exact trivial
  · exact trivial
  · exact show Str.length "a" ≤ 1000 by decide
  · exact trivial
  · exact ⟨by simp, fun x m => by rw [List.mem_singleton.mp m]; exact trivial⟩
  · exact ⟨by simp, fun x m => by rw [List.mem_singleton.mp m]; exact show [_, _].length ≤ 1000 by simp⟩
theorem sp_str (n : Nat) (x : Str) (gl : List MObj) (hB : Tp gl) : ∃ y gl', f__law_spoilt (n + 1) [.ref 0, .str x] gl = .ok y gl' ∧ Tp gl' ∧ Ok1 y := by
  obtain ⟨r, gl', d1, r1, B1⟩ := take_spec gl 10 hB (by omega) (by omega)
  have d1 : f__law_take [.ref 0, .int 10] gl = .ok (.int r) gl' := d1
  obtain ⟨y, hy⟩ : ∃ y, baseL[r]? = some y := ⟨_, List.getElem?_eq_getElem (show r < baseL.length from r1)⟩
  refine ⟨y, gl', ?_, B1, ok21 (base_ok y (List.mem_of_getElem? hy))⟩
  have i1 : ∀ s, fIsi .tup s (.d (.str x)) = .ok (.d (.bl false)) s := fun s => rfl
  have i2 : ∀ s, fIsi .int s (.d (.str x)) = .ok (.d (.bl false)) s := fun s => rfl
  have ng : ∀ s, fNeg s (.d (.int 1)) = .ok (.d (.int (-1))) s := fun s => rfl
  have ix : ∀ s, asLst s (.at 2) = some baseL → opIx s (.at 2) (.d (.int r)) = .ok (.d y) s := fun s h => q_ixL h (atI_get hy)
  have ln : ∀ s, asD s (.at 2) = some (.lst baseL) → fLen s (.at 2) = .ok (.d (.int 10)) s := fun s h => by rw [q_lenL h]; rfl
  have sz10 : 10 ≤ sizeLine := szN _ (by omega)
  have eB : baseL = [.non, .tup [], .int 0, .int 1, .bl true, .bl false, .str "a", .int (-1), .tup [.int 0], .tup [.tup [.int 0, .int 0]]] := rfl
  simp only [eB] at ix ln
  simp [f__law_spoilt, mDef, List.replicate, b__law_spoilt, i1, i2, asD, truthD, ng, as_new, sz10, ln, d1, ix, asLst]
theorem cut_mem {α : Type} {xs : List α} {lo hi : Option Int} {x : α} (h : x ∈ cut xs lo hi) : x ∈ xs := List.mem_of_mem_drop (List.mem_of_mem_take h)
theorem cut_len {α : Type} (xs : List α) (lo hi : Option Int) : (cut xs lo hi).length ≤ xs.length := by
  unfold cut
  rw [List.length_take, List.length_drop]
  omega
theorem addT (a b : List D) (h : a.length ≤ 2000) (h2 : b.length ≤ 2000) (s : S) : opAdd s (.d (.tup a)) (.d (.tup b)) = .ok (.d (.tup (a ++ b))) s := q_addT (szN _ (by omega))
theorem sp_tup (n : Nat) (xs : List D) (hl : xs.length ≤ 400) (hx : ∀ x ∈ xs, ∃ w : Str, x = .str w ∧ w.length ≤ 1000) (gl : List MObj) (hB : Tp gl) : ∃ y gl', f__law_spoilt (n + 2) [.ref 0, .tup xs] gl = .ok y gl' ∧ Tp gl' ∧ Ok2 y := by
  have ox : ∀ x ∈ xs, Ok1 x := fun x m => by
    obtain ⟨w, rfl, hw⟩ := hx x m
    exact hw
  have i1 : ∀ s, fIsi .tup s (.d (.tup xs)) = .ok (.d (.bl true)) s := fun s => rfl
  have i2 : ∀ s, fIsi .int s (.d (.tup xs)) = .ok (.d (.bl false)) s := fun s => rfl
  have ng : ∀ s, fNeg s (.d (.int 1)) = .ok (.d (.int (-1))) s := fun s => rfl
  have lx : ∀ s, fLen s (.d (.tup xs)) = .ok (.d (.int xs.length)) s := fun s => rfl
  have sl : ∀ lo hi s, opSl lo hi s (.d (.tup xs)) = .ok (.d (.tup (cut xs lo hi))) s := fun lo hi s => rfl
  -- one of the rows
  have rows : ∀ (b : Bool) (g1 : List MObj), Tp g1 → ∃ y gl', (mSeq (mSet 2 (mLst (mACons (mC .non) (mACons (mTup mANil) (mACons (mC (.int 0)) (mACons (mC (.int 1)) (mACons (mC (.bl true)) (mACons (mC (.bl false)) (mACons (mC (.str "a")) (mACons (mFn1 fNeg (mC (.int 1))) (mACons (mTup (mACons (mC (.int 0)) mANil)) (mACons (mTup (mACons (mTup (mACons (mC (.int 0)) (mACons (mC (.int 0)) mANil))) mANil)) mANil)))))))))))) (mSeq (mIfS (mTru (mFn1 (fIsi .int) (mVar 1))) (mSet 2 (mBin opAdd (mVar 2) (mLst (mACons (mBin opAdd (mVar 1) (mC (.int 1))) (mACons (mBin opSub (mVar 1) (mC (.int 1))) (mACons (mBin (opEq false) (mVar 1) (mC (.int 1))) (mACons (mBin opAdd (mVar 1) (mC (.int 1))) mANil))))))) mNx) (mSeq (mIfS (mTru (mFn1 (fIsi .tup) (mVar 1))) (mSet 2 (mBin opAdd (mVar 2) (mLst (mACons (mSlice (mVar 1) mNoPart (mPart (mFn1 fNeg (mC (.int 1))))) (mACons (mBin opAdd (mVar 1) (mSlice (mVar 1) (mPart (mFn1 fNeg (mC (.int 1)))) mNoPart)) (mACons (mBin opRev (mVar 1) (mFn1 fNeg (mC (.int 1)))) (mACons (mBin opAdd (mVar 1) (mTup (mACons (mTup (mACons (mC (.int 0)) (mACons (mC (.int 0)) mANil))) mANil))) (mACons (mTup (mACons (mVar 1) mANil)) (mACons (mSlice (mVar 1) (mPart (mC (.int 1))) mNoPart) mANil))))))))) mNx) (mRet (mBin opIx (mVar 2) (mCall f__law_take (mACons (mVar 0) (mACons (mFn1 fLen (mVar 2)) mANil)))))))) ⟨[.val (.ref 0), .val (.tup xs), .none, .none], g1⟩ = .ok (.rt y) gl' ∧ Tp gl'.gl ∧ Ok2 y := fun b g1 hB => by
    obtain ⟨r, gl', d1, r1, B1⟩ := take_spec g1 16 hB (by omega) (by omega)
    have d1 : f__law_take [.ref 0, .int 16] g1 = .ok (.int r) gl' := d1
    have c1 := cut_len xs none (some (-1))
    have c2 := cut_len xs (some (-1)) none
    have c3 := cut_len xs (some 1) none
    have a1 := addT xs (cut xs (some (-1)) none) (by omega) (by omega)
    have a2 := addT xs [.tup [.int 0, .int 0]] (by omega) (by simp)
    have rv : ∀ s, opRev s (.d (.tup xs)) (.d (.int (-1))) = .ok (.d (.tup xs.reverse)) s := fun s => rfl
    obtain ⟨M, hM⟩ : ∃ M : List D, M = [.tup (cut xs none (some (-1))), .tup (xs ++ cut xs (some (-1)) none), .tup xs.reverse, .tup (xs ++ [.tup [.int 0, .int 0]]), .tup [.tup xs], .tup (cut xs (some 1) none)] := ⟨_, rfl⟩
    have hMl : M.length = 6 := by rw [hM]; rfl
    have okM : ∀ y ∈ M, Ok2 y := by
      intro y m
      rw [hM] at m
      simp only [List.mem_cons, List.not_mem_nil, or_false] at m
      rcases m with rfl | rfl | rfl | rfl | rfl | rfl
      · exact ⟨by omega, fun x m => ox x (cut_mem m)⟩
      · refine ⟨by rw [List.length_append]; omega, fun x m => ?_⟩
        rcases List.mem_append.mp m with m | m
        · exact ox x m
        · exact ox x (cut_mem m)
      · exact ⟨by rw [List.length_reverse]; omega, fun x m => ox x (List.mem_reverse.mp m)⟩
      · refine ⟨by rw [List.length_append]; simp; omega, fun x m => ?_⟩
        rcases List.mem_append.mp m with m | m
        · exact ox x m
        · rw [List.mem_singleton.mp m]
          exact show [_, _].length ≤ 1000 by simp
      · refine ⟨by simp, fun x m => ?_⟩
        rw [List.mem_singleton.mp m]
        exact show xs.length ≤ 1000 by omega
      · exact ⟨by omega, fun x m => ox x (cut_mem m)⟩
    have adL : ∀ s, asLst s (.at 2) = some baseL → opAdd s (.at 2) (.new (.lst M)) = .ok (.new (.lst (baseL ++ M))) s := fun s h => q_addL h rfl (szN _ (by rw [hMl]; simp [baseL]))
    obtain ⟨y, hy⟩ : ∃ y, (baseL ++ M)[r]? = some y := ⟨_, List.getElem?_eq_getElem (show r < (baseL ++ M).length by rw [List.length_append, hMl]; simp [baseL]; omega)⟩
    have oy : Ok2 y := by
      rcases List.mem_append.mp (List.mem_of_getElem? hy) with m | m
      · exact base_ok y m
      · exact okM y m
    have ix : ∀ s, asLst s (.at 2) = some (baseL ++ M) → opIx s (.at 2) (.d (.int r)) = .ok (.d y) s := fun s h => q_ixL h (atI_get hy)
    have ln : ∀ s, asD s (.at 2) = some (.lst (baseL ++ M)) → fLen s (.at 2) = .ok (.d (.int 16)) s := fun s h => by rw [q_lenL h, List.length_append, hMl]; rfl
    have sz10 : 10 ≤ sizeLine := szN _ (by omega)
    have eB : baseL = [.non, .tup [], .int 0, .int 1, .bl true, .bl false, .str "a", .int (-1), .tup [.int 0], .tup [.tup [.int 0, .int 0]]] := rfl
    refine ⟨y, ⟨[.val (.ref 0), .val (.tup xs), .own (.lst (baseL ++ M)), .none], gl'⟩, ?_, B1, oy⟩
    generalize baseL ++ M = BM at *
    rw [hM] at adL
    simp only [eB] at adL
    simp [-List.append_eq, i1, i2, asD, truthD, ng, as_new, sz10, sz6, adL, asLst, sl, asInt, a1, a2, rv, ln, d1, ix]
  rcases Nat.eq_zero_or_pos xs.length with h0 | h0
  · obtain ⟨y, s', w, B', oy⟩ := rows true gl hB
    refine ⟨y, s'.gl, ?_, B', oy⟩
    have h0' : ¬ (0 : Int) < xs.length := by omega
    have t : mAndT (mTru (mFn1 (fIsi .tup) (mVar 1))) (mAndT (mBl (mBin opGt (mFn1 fLen (mVar 1)) (mC (.int 0)))) (mBl (mBin opGt (mCall f__law_take (mACons (mVar 0) (mACons (mC (.int 4)) mANil))) (mC (.int 0))))) ⟨[.val (.ref 0), .val (.tup xs), .none, .none], gl⟩ = .ok false ⟨[.val (.ref 0), .val (.tup xs), .none, .none], gl⟩ := by
      have gx : ∀ s, opGt s (.d (.int xs.length)) (.d (.int 0)) = .ok (.d (.bl false)) s := fun s => by rw [q_gt, decide_eq_false h0']
      simp [-q_gt, i1, asD, truthD, lx, gx]
    have e : b__law_spoilt (f__law_spoilt (n + 1)) ⟨[.val (.ref 0), .val (.tup xs), .none, .none], gl⟩ = .ok (.rt y) s' := by
      unfold b__law_spoilt
      rw [ap_Seq, ap_IfS, t]
      exact w
    show mDef 2 4 (b__law_spoilt (f__law_spoilt (n + 1))) [.ref 0, .tup xs] gl = _
    simp [mDef, List.replicate, e]
  · obtain ⟨r4, g4, d4, r4l, B4⟩ := take_spec gl 4 hB (by omega) (by omega)
    have d4 : f__law_take [.ref 0, .int 4] gl = .ok (.int r4) g4 := d4
    have h0' : (0 : Int) < xs.length := by omega
    have gx : ∀ s, opGt s (.d (.int xs.length)) (.d (.int 0)) = .ok (.d (.bl true)) s := fun s => by rw [q_gt, decide_eq_true h0']
    have gz : ∀ s, opGt s (.d (.int 0)) (.d (.int 0)) = .ok (.d (.bl false)) s := fun s => rfl
    rcases Nat.eq_zero_or_pos r4 with h4 | h4
    · obtain ⟨y, s', w, B', oy⟩ := rows true g4 B4
      refine ⟨y, s'.gl, ?_, B', oy⟩
      have t : mAndT (mTru (mFn1 (fIsi .tup) (mVar 1))) (mAndT (mBl (mBin opGt (mFn1 fLen (mVar 1)) (mC (.int 0)))) (mBl (mBin opGt (mCall f__law_take (mACons (mVar 0) (mACons (mC (.int 4)) mANil))) (mC (.int 0))))) ⟨[.val (.ref 0), .val (.tup xs), .none, .none], gl⟩ = .ok false ⟨[.val (.ref 0), .val (.tup xs), .none, .none], g4⟩ := by
        subst h4
        have d4 : f__law_take [.ref 0, .int 4] gl = .ok (.int 0) g4 := d4
        simp [-q_gt, i1, asD, truthD, lx, gx, gz, d4]
      have e : b__law_spoilt (f__law_spoilt (n + 1)) ⟨[.val (.ref 0), .val (.tup xs), .none, .none], gl⟩ = .ok (.rt y) s' := by
        unfold b__law_spoilt
        rw [ap_Seq, ap_IfS, t]
        exact w
      show mDef 2 4 (b__law_spoilt (f__law_spoilt (n + 1))) [.ref 0, .tup xs] gl = _
      simp [mDef, List.replicate, e]
    · have h4' : (0 : Int) < r4 := by omega
      have g4' : ∀ s, opGt s (.d (.int r4)) (.d (.int 0)) = .ok (.d (.bl true)) s := fun s => by rw [q_gt, decide_eq_true h4']
      obtain ⟨at', g5, d5, r5, B5⟩ := take_spec g4 xs.length B4 h0 (by omega)
      obtain ⟨r8, g8, d8, r8l, B8⟩ := take_spec g5 8 B5 (by omega) (by omega)
      have d8 : f__law_take [.ref 0, .int 8] g5 = .ok (.int r8) g8 := d8
      have c1 := cut_len xs none (some (at' : Int))
      have c2 := cut_len xs (some ((at' : Int) + 1)) none
      have a1 := addT (cut xs none (some (at' : Int))) (cut xs (some ((at' : Int) + 1)) none) (by omega) (by omega)
      obtain ⟨x, hxa⟩ : ∃ x, xs[at']? = some x := ⟨_, List.getElem?_eq_getElem r5⟩
      have ix : ∀ s, opIx s (.d (.tup xs)) (.d (.int at')) = .ok (.d x) s := fun s => q_ixT (atI_get hxa)
      by_cases h8 : r8 = 0
      · refine ⟨.tup (cut xs none (some (at' : Int)) ++ cut xs (some ((at' : Int) + 1)) none), g8, ?_, B8, ?_, fun x m => ?_⟩
        · subst h8
          show mDef 2 4 (b__law_spoilt (f__law_spoilt (n + 1))) [.ref 0, .tup xs] gl = _
          have d8 : f__law_take [.ref 0, .int 8] g5 = .ok (.int 0) g8 := d8
          simp [-q_gt, mDef, List.replicate, b__law_spoilt, i1, asD, truthD, lx, gx, d4, g4', d5, as_d, d8, asInt, sl, a1]
        · rw [List.length_append]; omega
        · rcases List.mem_append.mp m with m | m
          · exact ox x (cut_mem m)
          · exact ox x (cut_mem m)
      · obtain ⟨w, rfl, hw⟩ := hx x (List.mem_of_getElem? hxa)
        obtain ⟨y, g9, sp, B9, oy⟩ := sp_str n w g8 B8
        have a2 := addT (cut xs none (some (at' : Int))) [y] (by omega) (by simp)
        have a3 := addT (cut xs none (some (at' : Int)) ++ [y]) (cut xs (some ((at' : Int) + 1)) none) (by simp; omega) (by omega)
        refine ⟨.tup (cut xs none (some (at' : Int)) ++ [y] ++ cut xs (some ((at' : Int) + 1)) none), g9, ?_, B9, ?_, fun x m => ?_⟩
        · show mDef 2 4 (b__law_spoilt (f__law_spoilt (n + 1))) [.ref 0, .tup xs] gl = _
          simp [-q_gt, mDef, List.replicate, b__law_spoilt, i1, asD, truthD, lx, gx, d4, g4', d5, as_d, d8, h8, asInt, sl, ix, sp, a2, a3]
        · simp only [List.length_append, List.length_singleton]; omega
        · rcases List.mem_append.mp m with m | m
          · rcases List.mem_append.mp m with m | m
            · exact ox x (cut_mem m)
            · rw [List.mem_singleton.mp m]; exact oy
          · exact ox x (cut_mem m)
end K11
/-! # k11: scores -/
namespace K11
open PySem PySem.Spec PyProof.Rows L2 MI
/-! ### dicts with keys once each -/
theorem dval_hit {α : Type} (f : α → Key × D) (k : α → Str) (hf : ∀ x, (f x).1 = .inr (k x)) : ∀ {l : List α} {x : α}, (l.map k).Nodup → x ∈ l → dval (l.map f) (.inr (k x)) = some (f x).2
  | y :: l, x, hn, m => by
    rw [List.map_cons, List.nodup_cons] at hn
    unfold dval
    rw [List.map_cons, List.find?_cons]
    rcases List.mem_cons.mp m with rfl | m
    · rw [hf, decide_eq_true rfl]
      rfl
    · have ne : ¬ (f y).1 = .inr (k x) := fun z => hn.1 (by
        rw [hf] at z
        have : k y = k x := Sum.inr.inj z
        rw [this]
        exact List.mem_map.mpr ⟨x, m, rfl⟩)
      rw [decide_eq_false ne]
      exact dval_hit f k hf hn.2 m
theorem dval_miss {l : List (Key × D)} {k : Key} (h : ∀ x ∈ l, x.1 ≠ k) : dval l k = none := by
  unfold dval
  rw [List.find?_eq_none.mpr fun x m => by simpa using h x m]
  rfl
theorem dval_app (a b : List (Key × D)) (k : Key) : dval (a ++ b) k = match dval a k with | some v => some v | none => dval b k := by
  unfold dval
  rw [List.find?_append]
  cases a.find? fun kv => decide (kv.1 = k) <;> rfl
theorem dput_new {l : List (Key × D)} {k : Key} {v : D} (h : ∀ x ∈ l, x.1 ≠ k) : dput l k v = l ++ [(k, v)] := by
  unfold dput
  rw [if_neg]
  intro z
  obtain ⟨x, m, e⟩ := List.any_eq_true.mp z
  exact h x m (of_decide_eq_true e)
theorem merge_new : ∀ (l acc : List (Key × D)), ((acc ++ l).map (·.1)).Nodup → mergeD acc l = acc ++ l
  | [], acc, _ => by simp [mergeD]
  | x :: l, acc, h => by
    have e : mergeD acc (x :: l) = mergeD (dput acc x.1 x.2) l := rfl
    have hx : ∀ y ∈ acc, y.1 ≠ x.1 := fun y m z => by
      rw [List.map_append, List.nodup_append] at h
      exact h.2.2 y.1 (List.mem_map.mpr ⟨y, m, rfl⟩) x.1 (by simp) z
    rw [e, dput_new hx, merge_new l (acc ++ [(x.1, x.2)]) (by simpa using h)]
    simp
/-! ### rows -/
structure Rs where
  t : Str
  hv : Nat
  c : Nat
  pr : Bool
/-- what is drawn of all -/
structure Dr where
  many : Nat
  total : Nat
  len : Nat
  m1 : many ≤ 1000000
  t0 : 0 < total
  t1 : total ≤ 10000400
  l1 : len ≤ 401
def RsOk (r : Rs) : Prop := r.hv ≤ 1000000 ∧ r.c ≤ 3 ∧ (r.pr = false → r.c = 0) ∧ r.t ≠ "zoe"
section
variable (z : Dr)
def aN (r : Rs) : Nat := (z.many + 1) * 4 * r.c * z.total
def bN (r : Rs) : Nat := (r.hv + 1) * qN z.many z.total r.c z.len
def kW (r : Rs) : Key × D := (.inr r.t, rN (red (z.many + 1) (r.hv + 1)))
def kC (r : Rs) : Key × D := (.inr r.t, .int (r.c : Nat))
def stepR (x : Nat × Nat) (r : Rs) : Nat × Nat := red (x.1 * bN z r + aN z r * x.2) (x.2 * bN z r)
def foldR (x : Nat × Nat) (rs : List Rs) : Nat × Nat := rs.foldl (stepR z) x
def Inv (i : Nat) (x : Nat × Nat) : Prop := 0 < x.2 ∧ red x.1 x.2 = x ∧ x.1 ≤ 2 ^ (51 * i) ∧ x.2 ≤ 2 ^ (51 * i)
variable {z}
theorem qN_lo {c : Nat} (hc : c ≤ 3) : 0 < qN z.many z.total c z.len ∧ qN z.many z.total c z.len ≤ 536870912 := by
  have h1 := z.m1
  have h2 := z.t0
  have h3 := z.t1
  have h4 := z.l1
  have e1 : 2 * c * z.total ≤ 6 * 10000400 := Nat.mul_le_mul (by omega) h3
  have e2 : z.len * z.many ≤ 401 * 1000000 := Nat.mul_le_mul h4 h1
  unfold qN
  omega
theorem pN_lo {c : Nat} (hc : c ≤ 3) : pN z.total c ≤ 120004800 := by
  have e1 : 4 * c * z.total ≤ 12 * 10000400 := Nat.mul_le_mul (by omega) z.t1
  unfold pN
  omega
theorem aN_lo {r : Rs} (h : RsOk r) : aN z r ≤ 562949953421312 := by
  have h1 := z.m1
  have e1 : (z.many + 1) * 4 * r.c ≤ 4000004 * 3 := Nat.mul_le_mul (by omega) h.2.1
  have e2 : (z.many + 1) * 4 * r.c * z.total ≤ 12000012 * 10000400 := Nat.mul_le_mul (by omega) z.t1
  unfold aN
  omega
theorem bN_lo {r : Rs} (h : RsOk r) : 0 < bN z r ∧ bN z r ≤ 562949953421312 := by
  obtain ⟨q0, q1⟩ := qN_lo (z := z) h.2.1
  have h1 := h.1
  have e1 : (r.hv + 1) * qN z.many z.total r.c z.len ≤ 1000001 * 536870912 := Nat.mul_le_mul (by omega) q1
  have e2 : 0 < (r.hv + 1) * qN z.many z.total r.c z.len := Nat.mul_pos (by omega) q0
  unfold bN
  omega
theorem pow_up {x b k : Nat} (hx : x ≤ 2 ^ k) (hb : b ≤ 562949953421312) : x * b ≤ 2 ^ (k + 49) := by
  rw [Nat.pow_add]
  exact Nat.mul_le_mul hx (by omega)
theorem step_inv {i : Nat} {x : Nat × Nat} {r : Rs} (h : Inv i x) (hr : RsOk r) : Inv (i + 1) (stepR z x r) := by
  obtain ⟨h1, h2, h3, h4⟩ := h
  obtain ⟨b0, b1⟩ := bN_lo (z := z) hr
  have a1 := aN_lo (z := z) hr
  have hq : 0 < x.2 * bN z r := Nat.mul_pos h1 b0
  have u1 := pow_up h3 b1
  have u2 := pow_up h4 a1
  have u3 := pow_up h4 b1
  rw [Nat.mul_comm] at u2
  have e : 2 ^ (51 * (i + 1)) = 2 ^ (51 * i + 49) * 4 := by rw [show 51 * (i + 1) = 51 * i + 49 + 2 by omega, Nat.pow_add]
  unfold stepR
  refine ⟨red_pos hq, red_red hq, Nat.le_trans (red_le1 _ _) ?_, Nat.le_trans (red_le2 _ _) ?_⟩ <;> omega
theorem few_big {i n : Nat} (hi : i ≤ 5) (h : n ≤ 2 ^ (51 * i)) : Few n := by
  by_cases q : n = 0
  · subst q; unfold Few; rw [Nat.log2_zero]; omega
  · have : n < 2 ^ (51 * i + 1) := by rw [Nat.pow_succ]; have := Nat.two_pow_pos (51 * i); omega
    have := (Nat.log2_lt q).mpr this
    unfold Few
    omega
theorem step_zero {i : Nat} {x : Nat × Nat} {r : Rs} (h : Inv i x) (hr : RsOk r) (hc : r.c = 0) : stepR z x r = x := by
  obtain ⟨h1, h2, _, _⟩ := h
  have a0 : aN z r = 0 := by unfold aN; rw [hc]; simp
  unfold stepR
  rw [a0, Nat.zero_mul, Nat.add_zero, Nat.mul_comm x.1, Nat.mul_comm x.2, red_scale (bN_lo hr).1, h2]
/-- the same, by reduced parts -/
theorem step_eq {i : Nat} {x : Nat × Nat} {r : Rs} (h : Inv i x) (hr : RsOk r) :
    red (x.1 * (red ((red (z.many + 1) (r.hv + 1)).1 * (red (pN z.total r.c) (qN z.many z.total r.c z.len)).1) ((red (z.many + 1) (r.hv + 1)).2 * (red (pN z.total r.c) (qN z.many z.total r.c z.len)).2)).2 + (red ((red (z.many + 1) (r.hv + 1)).1 * (red (pN z.total r.c) (qN z.many z.total r.c z.len)).1) ((red (z.many + 1) (r.hv + 1)).2 * (red (pN z.total r.c) (qN z.many z.total r.c z.len)).2)).1 * x.2)
      (x.2 * (red ((red (z.many + 1) (r.hv + 1)).1 * (red (pN z.total r.c) (qN z.many z.total r.c z.len)).1) ((red (z.many + 1) (r.hv + 1)).2 * (red (pN z.total r.c) (qN z.many z.total r.c z.len)).2)).2) = stepR z x r := by
  obtain ⟨q0, q1⟩ := qN_lo (z := z) hr.2.1
  have h0 : 0 < r.hv + 1 := by omega
  have y := red_times h0 q0 (red (z.many + 1) (r.hv + 1)) (red (pN z.total r.c) (qN z.many z.total r.c z.len)) (red_same _ _) (red_same _ _) (red_pos h0) (red_pos q0)
  rw [y]
  have ea : (z.many + 1) * pN z.total r.c = aN z r := by unfold pN aN; ac_rfl
  have eb : (r.hv + 1) * qN z.many z.total r.c z.len = bN z r := rfl
  rw [ea, eb]
  exact red_sum h.1 (bN_lo hr).1 x (red (aN z r) (bN z r)) rfl (red_same _ _) h.1 (red_pos (bN_lo hr).1)
end
end K11
/-! # k11: what score_of tells -/
namespace K11
open PySem PySem.Spec PyProof.Rows L2 MI
def WD (z : Dr) (rs : List Rs) : List (Key × D) := rs.map (kW z)
def CD (rs : List Rs) : List (Key × D) := (rs.filter (·.pr)).map kC
def zoe : List (Key × D) := [(.inr "zoe", .int 3)]
theorem w_get {z : Dr} {rs : List Rs} {r : Rs} (hn : (rs.map (·.t)).Nodup) (m : r ∈ rs) : dval (WD z rs) (.inr r.t) = some (rN (red (z.many + 1) (r.hv + 1))) :=
  dval_hit (kW z) (·.t) (fun _ => rfl) hn m
theorem c_get {rs : List Rs} {r : Rs} (hn : (rs.map (·.t)).Nodup) (m : r ∈ rs) (hr : RsOk r) : dval (CD rs ++ zoe) (.inr r.t) = if r.pr = true then some (.int (r.c : Nat)) else none := by
  rw [dval_app]
  have hn2 : ((rs.filter (·.pr)).map (·.t)).Nodup := List.Nodup.sublist ((List.filter_sublist).map _) hn
  have mz : dval zoe (.inr r.t) = none := dval_miss fun x mx e => by
    rw [List.mem_singleton.mp mx] at e
    have : ("zoe" : Str) = r.t := Sum.inr.inj e
    exact hr.2.2.2 this.symm
  cases hp : r.pr with
  | true =>
    have := dval_hit kC (·.t) (fun _ => rfl) hn2 (List.mem_filter.mpr ⟨m, hp⟩)
    unfold CD
    rw [this]
    rfl
  | false =>
    have : dval (CD rs) (.inr r.t) = none := dval_miss fun x mx e => by
      obtain ⟨y, my, rfl⟩ := List.mem_map.mp mx
      obtain ⟨my, py⟩ := List.mem_filter.mp my
      have et : y.t = r.t := Sum.inr.inj e
      have : y = r := by
        obtain ⟨i, hi⟩ := List.mem_iff_getElem?.mp my
        obtain ⟨j, hj⟩ := List.mem_iff_getElem?.mp m
        have e1 : (rs.map (·.t))[i]? = some y.t := by rw [List.getElem?_map, hi]; rfl
        have e2 : (rs.map (·.t))[j]? = some y.t := by rw [List.getElem?_map, hj, et]; rfl
        have li : i < (rs.map (·.t)).length := (List.getElem?_eq_some_iff.mp e1).1
        have := (List.getElem?_inj li hn).mp (e1.trans e2.symm)
        subst this
        rw [hi] at hj
        exact Option.some.inj hj
      rw [this, hp] at py
      cases py
    rw [this, mz]
    rfl
theorem lt64 {a b : Nat} (h : a ≤ b) (hb : b < 2 ^ 64) : a < 2 ^ 64 := Nat.lt_of_le_of_lt h hb
theorem score_step (z : Dr) (rs : List Rs) (hn : (rs.map (·.t)).Nodup) (hok : ∀ r ∈ rs, RsOk r) (r : Rs) (m : r ∈ rs) (i : Nat) (hi : i ≤ 4) (x : Nat × Nat) (h : Inv i x) (gl : List MObj) :
    l_score_of_1 ⟨[.val (.int z.many), .val (.int z.total), .val (.dic (WD z rs)), .val (.dic (CD rs ++ zoe)), .val (.int z.len), .val (rN x), .val (.str r.t)], gl⟩ = .ok .nx ⟨[.val (.int z.many), .val (.int z.total), .val (.dic (WD z rs)), .val (.dic (CD rs ++ zoe)), .val (.int z.len), .val (rN (stepR z x r)), .val (.str r.t)], gl⟩ := by
  have hr := hok r m
  have gw := w_get (z := z) hn m
  have gc := c_get hn m hr
  have kt : keyOf (.str r.t) = some (.inr r.t) := rfl
  obtain ⟨q0, q1⟩ := qN_lo (z := z) hr.2.1
  have p1 := pN_lo (z := z) hr.2.1
  obtain ⟨b0, b1⟩ := bN_lo (z := z) hr
  have hm := z.m1
  have ht := z.t1
  have eq := step_eq (z := z) h hr
  have ps := part_spec z.many z.total r.c z.len z.t0 (by omega) (by omega) (few_64 (by omega)) gl
  have hv := hr.1
  have wp := red_pos (p := z.many + 1) (q := r.hv + 1) (by omega)
  have pp := red_pos (p := pN z.total r.c) q0
  have w1 := red_le1 (z.many + 1) (r.hv + 1)
  have w2 := red_le2 (z.many + 1) (r.hv + 1)
  have k1 := red_le1 (pN z.total r.c) (qN z.many z.total r.c z.len)
  have k2 := red_le2 (pN z.total r.c) (qN z.many z.total r.c z.len)
  have m1 : (red (z.many + 1) (r.hv + 1)).1 * (red (pN z.total r.c) (qN z.many z.total r.c z.len)).1 ≤ 1000001 * 120004800 := Nat.mul_le_mul (by omega) (by omega)
  have m2 : (red (z.many + 1) (r.hv + 1)).2 * (red (pN z.total r.c) (qN z.many z.total r.c z.len)).2 ≤ 1000001 * 536870912 := Nat.mul_le_mul (by omega) (by omega)
  have ts := times_spec (red (z.many + 1) (r.hv + 1)) (red (pN z.total r.c) (qN z.many z.total r.c z.len)) wp pp (by omega) (by omega) (few_64 (by omega)) gl
  have tp := red_pos (p := (red (z.many + 1) (r.hv + 1)).1 * (red (pN z.total r.c) (qN z.many z.total r.c z.len)).1) (Nat.mul_pos wp pp)
  have t1 := red_le1 ((red (z.many + 1) (r.hv + 1)).1 * (red (pN z.total r.c) (qN z.many z.total r.c z.len)).1) ((red (z.many + 1) (r.hv + 1)).2 * (red (pN z.total r.c) (qN z.many z.total r.c z.len)).2)
  have t2 := red_le2 ((red (z.many + 1) (r.hv + 1)).1 * (red (pN z.total r.c) (qN z.many z.total r.c z.len)).1) ((red (z.many + 1) (r.hv + 1)).2 * (red (pN z.total r.c) (qN z.many z.total r.c z.len)).2)
  have u3 := pow_up (b := 562949953421312) h.2.2.2 (Nat.le_refl _)
  have f3 : x.2 * (red ((red (z.many + 1) (r.hv + 1)).1 * (red (pN z.total r.c) (qN z.many z.total r.c z.len)).1) ((red (z.many + 1) (r.hv + 1)).2 * (red (pN z.total r.c) (qN z.many z.total r.c z.len)).2)).2 ≤ x.2 * 562949953421312 := Nat.mul_le_mul_left _ (by omega)
  have e51 : 2 ^ (51 * (i + 1)) = 2 ^ (51 * i + 49) * 4 := by rw [show 51 * (i + 1) = 51 * i + 49 + 2 by omega, Nat.pow_add]
  have ss := sum_spec x (red ((red (z.many + 1) (r.hv + 1)).1 * (red (pN z.total r.c) (qN z.many z.total r.c z.len)).1) ((red (z.many + 1) (r.hv + 1)).2 * (red (pN z.total r.c) (qN z.many z.total r.c z.len)).2)) h.1 tp (by omega) (by omega) (few_big (i := i + 1) (by omega) (by omega)) gl
  rw [eq] at ss
  clear eq m1 m2 t1 t2 u3 f3 e51 tp wp pp w1 w2 k1 k2 q0 q1 p1 b0 b1
  have zr : r.c = 0 → rN (stepR z x r) = rN x := fun hc => by rw [step_zero (z := z) h hr hc]
  generalize rN (stepR z x r) = SR at *
  generalize red ((red (z.many + 1) (r.hv + 1)).1 * (red (pN z.total r.c) (qN z.many z.total r.c z.len)).1) ((red (z.many + 1) (r.hv + 1)).2 * (red (pN z.total r.c) (qN z.many z.total r.c z.len)).2) = TT at *
  generalize rN (red (z.many + 1) (r.hv + 1)) = WR at *
  generalize rN (red (pN z.total r.c) (qN z.many z.total r.c z.len)) = PR at *
  generalize rN x = XR at *
  generalize WD z rs = W at *
  generalize CD rs ++ zoe = C at *
  have g0 : ∀ s, opGt s (.d (.int 0)) (.d (.int 0)) = .ok (.d (.bl false)) s := fun s => rfl
  cases hp : r.pr with
  | false =>
    rw [zr (hr.2.2.1 hp)]
    rw [hp] at gc
    simp only [Bool.false_eq_true, if_false] at gc
    simp [-q_gt, l_score_of_1, asDic, kt, gc, g0]
  | true =>
    rw [hp] at gc
    simp only [if_true] at gc
    by_cases hc : r.c = 0
    · rw [zr hc]
      rw [hc] at gc
      have gc : dval C (.inr r.t) = some (.int 0) := gc
      simp [-q_gt, l_score_of_1, asDic, kt, gc, g0]
    · have gp : ∀ s, opGt s (.d (.int r.c)) (.d (.int 0)) = .ok (.d (.bl true)) s := fun s => by rw [q_gt, decide_eq_true (by omega)]
      simp [-q_gt, l_score_of_1, asDic, kt, gc, gp, gw, ps, ts, ss, as_d]
theorem score_loop (z : Dr) (rs : List Rs) (hn : (rs.map (·.t)).Nodup) (hok : ∀ r ∈ rs, RsOk r) (gl : List MObj) : ∀ (l : List Rs) (i : Nat) (x : Nat × Nat) (c6 : Slot), (∀ r ∈ l, r ∈ rs) → i + l.length ≤ 5 → Inv i x →
    ∃ c6', forGo (tgName 6) l_score_of_1 (l.map fun r => .str r.t) ⟨[.val (.int z.many), .val (.int z.total), .val (.dic (WD z rs)), .val (.dic (CD rs ++ zoe)), .val (.int z.len), .val (rN x), c6], gl⟩ = .ok .nx ⟨[.val (.int z.many), .val (.int z.total), .val (.dic (WD z rs)), .val (.dic (CD rs ++ zoe)), .val (.int z.len), .val (rN (foldR z x l)), c6'], gl⟩
  | [], i, x, c6, _, _, _ => ⟨c6, rfl⟩
  | r :: l, i, x, c6, hm, hl, h => by
    simp only [List.length_cons] at hl
    have m := hm r List.mem_cons_self
    have st := score_step z rs hn hok r m i (by omega) x h gl
    obtain ⟨c6', w⟩ := score_loop z rs hn hok gl l (i + 1) (stepR z x r) (.val (.str r.t)) (fun y my => hm y (List.mem_cons_of_mem _ my)) (by omega) (step_inv h (hok r m))
    refine ⟨c6', ?_⟩
    rw [List.map_cons]
    exact (fc_ok (by rw [ap_tgName, as_d (by simp)]; rfl) st).trans w
theorem keys_map (z : Dr) : ∀ rs : List Rs, keysS (WD z rs) = some (rs.map (·.t))
  | [] => rfl
  | r :: rs => by
    have ih := keys_map z rs
    unfold WD at ih ⊢
    rw [List.map_cons, List.map_cons]
    show (keysS (rs.map (kW z))).map (r.t :: ·) = _
    rw [ih]
    rfl
theorem score_spec (z : Dr) (rs : List Rs) (hs : adj (rs.map (·.t)) = true) (hok : ∀ r ∈ rs, RsOk r) (hl : rs.length ≤ 4) (gl : List MObj) :
    f_score_of [.int z.many, .int z.total, .dic (WD z rs), .dic (CD rs ++ zoe), .int z.len] gl = .ok (rN (foldR z (0, 1) rs)) gl := by
  have pw := adj_pw hs
  have hn : (rs.map (·.t)).Nodup := pw.imp fun {a b} q e => by rw [e, lt_irr] at q; cases q
  have i0 : Inv 0 (0, 1) := ⟨by simp, by decide, by simp, by simp⟩
  obtain ⟨c6, w⟩ := score_loop z rs hn hok gl rs 0 (0, 1) .none (fun r m => m) (by omega) i0
  have srt : sortS (rs.map (·.t)) = rs.map (·.t) := (pw_leS (pw.imp fun q => le_of q) (List.Perm.refl _)).symm
  have so : ∀ s, fSorted s (.d (.dic (WD z rs))) = .ok (.new (.lst (rs.map fun r => .str r.t))) s := fun s => by
    unfold fSorted
    have e : asD s (.d (.dic (WD z rs))) = some (.dic (WD z rs)) := rfl
    rw [e]
    simp only [keys_map]
    rw [if_pos (by rw [List.length_map]; omega), srt, List.map_map]
    rfl
  have e01 : ((0 : Nat) : Int) = 0 := rfl
  have w0 : rN (0, 1) = .tup [.int 0, .int 1] := rfl
  rw [w0] at w
  generalize rN (foldR z (0, 1) rs) = R at *
  generalize (rs.map fun r => D.str r.t) = L at *
  generalize WD z rs = W at *
  generalize CD rs ++ zoe = C at *
  simp [f_score_of, mDef, List.replicate, b_score_of, as_d, so, w]
end K11
/-! # k11: the law's sum over drawn terms -/
namespace K11
open PySem PySem.Spec PyProof.Rows L2 MI
theorem term_step (z : Dr) (c0 c2 c6 c7 c9 c10 c11 c12 c13 c16 c21 : Slot) (c14 c15 c22 c23 : Slot) (t : Str) (rs : List Rs) (hn : ∀ r ∈ rs, r.t ≠ t) (ht : t ≠ "zoe") (hl : rs.length ≤ 100) (i : Nat) (hi : i ≤ 4) (x : Nat × Nat) (h : Inv i x) (gl : List MObj) (hB : Tp gl) :
    ∃ r d14 d15 d22 d23 gl', l_law_7 ⟨[c0, .val (.ref 0), c2, .val (.int z.many), .val (.int z.len), .val (.int z.total), c6, c7, .val (.str t), c9, c10, c11, c12, c13, c14, c15, c16, .val (.int (x).1), .val (.int (x).2), .own (.dic (WD z rs)), .own (.dic (CD rs)), c21, c22, c23, .none, .none], gl⟩ = .ok .nx ⟨[c0, .val (.ref 0), c2, .val (.int z.many), .val (.int z.len), .val (.int z.total), c6, c7, .val (.str t), c9, c10, c11, c12, c13, d14, d15, c16, .val (.int (stepR z x r).1), .val (.int (stepR z x r).2), .own (.dic (WD z (rs ++ [r]))), .own (.dic (CD (rs ++ [r]))), c21, d22, d23, .none, .none], gl'⟩ ∧ Tp gl' ∧ RsOk r ∧ r.t = t := by
  have hm := z.m1
  obtain ⟨hv, g1, t1, hv1, B1⟩ := take_spec gl (z.many + 1) hB (by omega) (by omega)
  obtain ⟨c, g2, t2, c1, B2⟩ := take_spec g1 (min 4 (z.len + 1)) B1 (by omega) (by omega)
  have mn : minI 4 ((z.len + 1 : Nat) : Int) = ((min 4 (z.len + 1) : Nat) : Int) := by unfold minI; split <;> omega
  have c3 : c ≤ 3 := by omega
  -- present or not
  obtain ⟨pr, g3, B3, hp, st3⟩ : ∃ (pr : Bool) (g3 : List MObj), Tp g3 ∧ (pr = false → c = 0) ∧ (mOrT (mBl (mBin opGt (mVar 15) (mC (.int 0)))) (mBl (mBin (opEq false) (mCall f__law_take (mACons (mVar 1) (mACons (mC (.int 2)) mANil))) (mC (.int 0))))) ⟨[c0, .val (.ref 0), c2, .val (.int z.many), .val (.int z.len), .val (.int z.total), c6, c7, .val (.str t), c9, c10, c11, c12, c13, .val (.int hv), .val (.int c), c16, .val (.int (x).1), .val (.int (x).2), .own (.dic (WD z rs ++ [(.inr t, rN (red (z.many + 1) (hv + 1)))])), .own (.dic (CD rs)), c21, c22, c23, .none, .none], g2⟩ = .ok pr ⟨[c0, .val (.ref 0), c2, .val (.int z.many), .val (.int z.len), .val (.int z.total), c6, c7, .val (.str t), c9, c10, c11, c12, c13, .val (.int hv), .val (.int c), c16, .val (.int (x).1), .val (.int (x).2), .own (.dic (WD z rs ++ [(.inr t, rN (red (z.many + 1) (hv + 1)))])), .own (.dic (CD rs)), c21, c22, c23, .none, .none], g3⟩ := by
    generalize WD z rs ++ [(.inr t, rN (red (z.many + 1) (hv + 1)))] = W
    generalize CD rs = C
    by_cases q : c = 0
    · obtain ⟨k, g3, t3, k3, B3⟩ := take_spec g2 2 B2 (by omega) (by omega)
      have t3 : f__law_take [.ref 0, .int 2] g2 = .ok (.int k) g3 := t3
      have gz : ∀ s, opGt s (.d (.int c)) (.d (.int 0)) = .ok (.d (.bl false)) s := fun s => by rw [q_gt, decide_eq_false (by omega)]
      exact ⟨((k : Int) == 0), g3, B3, fun _ => q, by simp [-q_gt, gz, t3]⟩
    · have gz : ∀ s, opGt s (.d (.int c)) (.d (.int 0)) = .ok (.d (.bl true)) s := fun s => by rw [q_gt, decide_eq_true (by omega)]
      exact ⟨true, g2, B2, fun z => (nomatch z), by simp [-q_gt, gz]⟩
  have hr : RsOk ⟨t, hv, c, pr⟩ := ⟨show hv ≤ 1000000 by omega, c3, hp, ht⟩
  refine ⟨⟨t, hv, c, pr⟩, .val (.int hv), .val (.int c), .val (.int (aN z ⟨t, hv, c, pr⟩)), .val (.int (bN z ⟨t, hv, c, pr⟩)), g3, ?_, B3, hr, rfl⟩
  obtain ⟨q0, q1⟩ := qN_lo (z := z) c3
  obtain ⟨b0, b1⟩ := bN_lo (z := z) hr
  have a1 := aN_lo (z := z) hr
  have kt : keyOf (.str t) = some (.inr t) := rfl
  have am := addN z.many 1
  have al := addN z.len 1
  have ah := addN hv 1
  have lw := low_spec (z.many + 1) (hv + 1) (by omega) (few_64 (by omega)) (few_64 (by omega)) g2
  have dW : dput (WD z rs) (.inr t) (rN (red (z.many + 1) (hv + 1))) = WD z rs ++ [(.inr t, rN (red (z.many + 1) (hv + 1)))] := dput_new fun y my e => by
    obtain ⟨r, mr, rfl⟩ := List.mem_map.mp my
    exact hn r mr (Sum.inr.inj e)
  have dC : dput (CD rs) (.inr t) (.int c) = CD rs ++ [(.inr t, .int c)] := dput_new fun y my e => by
    obtain ⟨r, mr, rfl⟩ := List.mem_map.mp my
    exact hn r (List.mem_filter.mp mr).1 (Sum.inr.inj e)
  have eW : WD z (rs ++ [⟨t, hv, c, pr⟩]) = WD z rs ++ [(.inr t, rN (red (z.many + 1) (hv + 1)))] := by unfold WD; rw [List.map_append]; rfl
  have eC : CD (rs ++ [⟨t, hv, c, pr⟩]) = if pr = true then CD rs ++ [(.inr t, .int c)] else CD rs := by
    unfold CD
    rw [List.filter_append, List.map_append]
    cases pr <;> simp [kC]
  have lW : (WD z rs).length < sizeLine := by rw [sizeLine_eq]; unfold WD; rw [List.length_map]; omega
  have lC : (CD rs).length < sizeLine := by
    rw [sizeLine_eq]
    unfold CD
    have := (List.filter_sublist (p := fun r : Rs => r.pr) (l := rs)).length_le
    rw [List.length_map]
    omega
  rw [eW, eC]
  -- the weights, the counts
  have s1 : (mParN [14, 15] (mRCons (mCall f__law_take (mACons (mVar 1) (mACons (mBin opAdd (mVar 3) (mC (.int 1))) mANil))) (mRCons (mCall f__law_take (mACons (mVar 1) (mACons (mFn2 minI (mACons (mC (.int 4)) (mACons (mBin opAdd (mVar 4) (mC (.int 1))) mANil))) mANil))) mRNil))) ⟨[c0, .val (.ref 0), c2, .val (.int z.many), .val (.int z.len), .val (.int z.total), c6, c7, .val (.str t), c9, c10, c11, c12, c13, c14, c15, c16, .val (.int (x).1), .val (.int (x).2), .own (.dic (WD z rs)), .own (.dic (CD rs)), c21, c22, c23, .none, .none], gl⟩ = .ok .nx ⟨[c0, .val (.ref 0), c2, .val (.int z.many), .val (.int z.len), .val (.int z.total), c6, c7, .val (.str t), c9, c10, c11, c12, c13, .val (.int hv), .val (.int c), c16, .val (.int (x).1), .val (.int (x).2), .own (.dic (WD z rs)), .own (.dic (CD rs)), c21, c22, c23, .none, .none], g2⟩ := by
    generalize WD z rs = W
    generalize CD rs = C
    generalize z.many + 1 = A at am t1
    generalize min 4 (z.len + 1) = M at t2 mn
    generalize z.len + 1 = L at al mn
    have e1 : ((1 : Nat) : Int) = 1 := rfl
    rw [e1] at am al
    simp [-q_add, am, al, t1, mn, t2, as_d]
  have s2 : (mDPut (mCall f__law_low (mACons (mBin opAdd (mVar 3) (mC (.int 1))) (mACons (mBin opAdd (mVar 14) (mC (.int 1))) mANil))) (mVar 19) (mVar 8)) ⟨[c0, .val (.ref 0), c2, .val (.int z.many), .val (.int z.len), .val (.int z.total), c6, c7, .val (.str t), c9, c10, c11, c12, c13, .val (.int hv), .val (.int c), c16, .val (.int (x).1), .val (.int (x).2), .own (.dic (WD z rs)), .own (.dic (CD rs)), c21, c22, c23, .none, .none], g2⟩ = .ok .nx ⟨[c0, .val (.ref 0), c2, .val (.int z.many), .val (.int z.len), .val (.int z.total), c6, c7, .val (.str t), c9, c10, c11, c12, c13, .val (.int hv), .val (.int c), c16, .val (.int (x).1), .val (.int (x).2), .own (.dic (WD z rs ++ [(.inr t, rN (red (z.many + 1) (hv + 1)))])), .own (.dic (CD rs)), c21, c22, c23, .none, .none], g2⟩ := by
    rw [← dW]
    generalize WD z rs = W at lW ⊢
    generalize CD rs = C
    generalize rN (red (z.many + 1) (hv + 1)) = RR at lw ⊢
    generalize z.many + 1 = A at am lw
    generalize hv + 1 = H at ah lw
    have e1 : ((1 : Nat) : Int) = 1 := rfl
    rw [e1] at am ah
    simp [-q_add, am, ah, lw, kt, lW]
  have s3 : (mIfS (mOrT (mBl (mBin opGt (mVar 15) (mC (.int 0)))) (mBl (mBin (opEq false) (mCall f__law_take (mACons (mVar 1) (mACons (mC (.int 2)) mANil))) (mC (.int 0))))) (mDPut (mVar 15) (mVar 20) (mVar 8)) mNx) ⟨[c0, .val (.ref 0), c2, .val (.int z.many), .val (.int z.len), .val (.int z.total), c6, c7, .val (.str t), c9, c10, c11, c12, c13, .val (.int hv), .val (.int c), c16, .val (.int (x).1), .val (.int (x).2), .own (.dic (WD z rs ++ [(.inr t, rN (red (z.many + 1) (hv + 1)))])), .own (.dic (CD rs)), c21, c22, c23, .none, .none], g2⟩ = .ok .nx ⟨[c0, .val (.ref 0), c2, .val (.int z.many), .val (.int z.len), .val (.int z.total), c6, c7, .val (.str t), c9, c10, c11, c12, c13, .val (.int hv), .val (.int c), c16, .val (.int (x).1), .val (.int (x).2), .own (.dic (WD z rs ++ [(.inr t, rN (red (z.many + 1) (hv + 1)))])), .own (.dic (if pr = true then CD rs ++ [(.inr t, .int c)] else CD rs)), c21, c22, c23, .none, .none], g3⟩ := by
    rw [ap_IfS, st3]
    generalize WD z rs ++ [(.inr t, rN (red (z.many + 1) (hv + 1)))] = W
    cases pr with
    | false => rfl
    | true =>
      rw [if_pos rfl, ← dC]
      generalize CD rs = C at lC ⊢
      simp [kt, lC]
  -- the ratio
  obtain ⟨i1, i2, i3, i4⟩ := h
  have m1 := mulR (z.many + 1) 4 (by omega)
  have m2 := mulR ((z.many + 1) * 4) c (by omega)
  have m3 := mulR ((z.many + 1) * 4 * c) z.total (by have := z.t1; omega)
  have m4 := mulL 2 c (by omega)
  have m5 := mulR (2 * c) z.total (by have := z.t1; omega)
  have m6 := mulR z.len z.many (by omega)
  have a2 := addN (2 * c * z.total) z.total
  have a3 := addN (2 * c * z.total + z.total) (z.len * z.many)
  have m7 := mulL (hv + 1) (2 * c * z.total + z.total + z.len * z.many) (by omega)
  have s4 : ∀ W C : List (Key × D), (mParN [22, 23] (mRCons (mBin opMul (mBin opMul (mBin opMul (mBin opAdd (mVar 3) (mC (.int 1))) (mC (.int 4))) (mVar 15)) (mVar 5)) (mRCons (mBin opMul (mBin opAdd (mVar 14) (mC (.int 1))) (mBin opAdd (mBin opAdd (mBin opMul (mBin opMul (mC (.int 2)) (mVar 15)) (mVar 5)) (mVar 5)) (mBin opMul (mVar 4) (mVar 3)))) mRNil))) ⟨[c0, .val (.ref 0), c2, .val (.int z.many), .val (.int z.len), .val (.int z.total), c6, c7, .val (.str t), c9, c10, c11, c12, c13, .val (.int hv), .val (.int c), c16, .val (.int (x).1), .val (.int (x).2), .own (.dic W), .own (.dic C), c21, c22, c23, .none, .none], g3⟩ = .ok .nx ⟨[c0, .val (.ref 0), c2, .val (.int z.many), .val (.int z.len), .val (.int z.total), c6, c7, .val (.str t), c9, c10, c11, c12, c13, .val (.int hv), .val (.int c), c16, .val (.int (x).1), .val (.int (x).2), .own (.dic W), .own (.dic C), c21, .val (.int (aN z ⟨t, hv, c, pr⟩)), .val (.int (bN z ⟨t, hv, c, pr⟩)), .none, .none], g3⟩ := fun W C => by
    have eA : aN z ⟨t, hv, c, pr⟩ = (z.many + 1) * 4 * c * z.total := rfl
    have eB : bN z ⟨t, hv, c, pr⟩ = (hv + 1) * (2 * c * z.total + z.total + z.len * z.many) := rfl
    rw [eA, eB]
    clear eA eB eW eC dW dC s1 s2 s3 st3 lW lC i1 i2 i3 i4 a1 b0 b1 q0 q1 hr
    generalize (hv + 1) * (2 * c * z.total + z.total + z.len * z.many) = V1 at *
    generalize 2 * c * z.total + z.total + z.len * z.many = V2 at *
    generalize 2 * c * z.total + z.total = V3 at *
    generalize 2 * c * z.total = V4 at *
    generalize 2 * c = V5 at *
    generalize z.len * z.many = V6 at *
    generalize (z.many + 1) * 4 * c * z.total = U1 at *
    generalize (z.many + 1) * 4 * c = U2 at *
    generalize (z.many + 1) * 4 = U3 at *
    generalize z.many + 1 = U4 at *
    generalize hv + 1 = U5 at *
    have e1 : ((1 : Nat) : Int) = 1 := rfl
    have e2 : ((2 : Nat) : Int) = 2 := rfl
    have e4 : ((4 : Nat) : Int) = 4 := rfl
    rw [e1] at am ah
    rw [e2] at m4
    rw [e4] at m1
    simp [-q_add, am, ah, m1, m2, m3, m4, m5, m6, a2, a3, m7, as_d]
  have n1 := mulR x.1 (bN z ⟨t, hv, c, pr⟩) (by omega)
  have n2 := mulL (aN z ⟨t, hv, c, pr⟩) x.2 (by omega)
  have n3 := mulR x.2 (bN z ⟨t, hv, c, pr⟩) (by omega)
  have n4 := addN (x.1 * bN z ⟨t, hv, c, pr⟩) (aN z ⟨t, hv, c, pr⟩ * x.2)
  have u1 := pow_up i3 b1
  have u2 := pow_up i4 a1
  have u3 := pow_up i4 b1
  rw [Nat.mul_comm] at u2
  have e51 : 2 ^ (51 * (i + 1)) = 2 ^ (51 * i + 49) * 4 := by rw [show 51 * (i + 1) = 51 * i + 49 + 2 by omega, Nat.pow_add]
  have lp := low_spec (x.1 * bN z ⟨t, hv, c, pr⟩ + aN z ⟨t, hv, c, pr⟩ * x.2) (x.2 * bN z ⟨t, hv, c, pr⟩) (Nat.mul_pos i1 b0) (few_big (i := i + 1) (by omega) (by omega)) (few_big (i := i + 1) (by omega) (by omega)) g3
  have s5 : ∀ W C : List (Key × D), (mUnp [17, 18] (mCall f__law_low (mACons (mBin opAdd (mBin opMul (mVar 17) (mVar 23)) (mBin opMul (mVar 22) (mVar 18))) (mACons (mBin opMul (mVar 18) (mVar 23)) mANil)))) ⟨[c0, .val (.ref 0), c2, .val (.int z.many), .val (.int z.len), .val (.int z.total), c6, c7, .val (.str t), c9, c10, c11, c12, c13, .val (.int hv), .val (.int c), c16, .val (.int (x).1), .val (.int (x).2), .own (.dic W), .own (.dic C), c21, .val (.int (aN z ⟨t, hv, c, pr⟩)), .val (.int (bN z ⟨t, hv, c, pr⟩)), .none, .none], g3⟩ = .ok .nx ⟨[c0, .val (.ref 0), c2, .val (.int z.many), .val (.int z.len), .val (.int z.total), c6, c7, .val (.str t), c9, c10, c11, c12, c13, .val (.int hv), .val (.int c), c16, .val (.int (stepR z x ⟨t, hv, c, pr⟩).1), .val (.int (stepR z x ⟨t, hv, c, pr⟩).2), .own (.dic W), .own (.dic C), c21, .val (.int (aN z ⟨t, hv, c, pr⟩)), .val (.int (bN z ⟨t, hv, c, pr⟩)), .none, .none], g3⟩ := fun W C => by
    unfold stepR
    unfold rN at lp
    clear eW eC dW dC s1 s2 s3 s4 st3 lW lC i1 i2 i3 i4 a1 b0 b1 q0 q1 hr u1 u2 u3 e51
    generalize red (x.1 * bN z ⟨t, hv, c, pr⟩ + aN z ⟨t, hv, c, pr⟩ * x.2) (x.2 * bN z ⟨t, hv, c, pr⟩) = RR at *
    generalize x.1 * bN z ⟨t, hv, c, pr⟩ + aN z ⟨t, hv, c, pr⟩ * x.2 = V1 at *
    generalize x.1 * bN z ⟨t, hv, c, pr⟩ = V2 at *
    generalize aN z ⟨t, hv, c, pr⟩ * x.2 = V3 at *
    generalize x.2 * bN z ⟨t, hv, c, pr⟩ = V4 at *
    generalize bN z ⟨t, hv, c, pr⟩ = V5 at *
    generalize aN z ⟨t, hv, c, pr⟩ = V6 at *
    simp [-q_add, n1, n2, n3, n4, lp, as_d]
  unfold l_law_7
  rw [seq_nx s1, seq_nx s2, seq_nx s3, seq_nx (s4 _ _), s5]
theorem term_loop (z : Dr) (c0 c2 c6 c7 c9 c10 c11 c12 c13 c16 c21 : Slot) : ∀ (ts : List Str) (rs : List Rs) (i : Nat) (x : Nat × Nat) (gl : List MObj) (c8 c14 c15 c22 c23 : Slot), (∀ r ∈ rs, RsOk r) → (rs.map (·.t) ++ ts).Nodup → (∀ t ∈ ts, t ≠ "zoe") → i + ts.length ≤ 5 → rs.length + ts.length ≤ 100 → Inv i x → Tp gl →
    ∃ rs' d8 d14 d15 d22 d23 gl', forGo (tgName 8) l_law_7 (ts.map .str) ⟨[c0, .val (.ref 0), c2, .val (.int z.many), .val (.int z.len), .val (.int z.total), c6, c7, c8, c9, c10, c11, c12, c13, c14, c15, c16, .val (.int (x).1), .val (.int (x).2), .own (.dic (WD z rs)), .own (.dic (CD rs)), c21, c22, c23, .none, .none], gl⟩ = .ok .nx ⟨[c0, .val (.ref 0), c2, .val (.int z.many), .val (.int z.len), .val (.int z.total), c6, c7, d8, c9, c10, c11, c12, c13, d14, d15, c16, .val (.int (foldR z x rs').1), .val (.int (foldR z x rs').2), .own (.dic (WD z (rs ++ rs'))), .own (.dic (CD (rs ++ rs'))), c21, d22, d23, .none, .none], gl'⟩ ∧ Tp gl' ∧ (∀ r ∈ rs', RsOk r) ∧ (rs ++ rs').map (·.t) = rs.map (·.t) ++ ts
  | [], rs, i, x, gl, c8, c14, c15, c22, c23, hok, hn, hz, hi, hl, h, hB => ⟨[], c8, c14, c15, c22, c23, gl, by simp [foldR, forGo_nil], hB, (fun r m => nomatch m), by simp⟩
  | t :: ts, rs, i, x, gl, c8, c14, c15, c22, c23, hok, hn, hz, hi, hl, h, hB => by
    simp only [List.length_cons] at hi hl
    obtain ⟨r, e14, e15, e22, e23, g1, st, B1, r1, rt⟩ := term_step z c0 c2 c6 c7 c9 c10 c11 c12 c13 c16 c21 c14 c15 c22 c23 t rs (fun y my e => by
      rw [List.nodup_append] at hn
      exact hn.2.2 y.t (List.mem_map.mpr ⟨y, my, rfl⟩) t List.mem_cons_self e) (hz t List.mem_cons_self) (by omega) i (by omega) x h gl hB
    obtain ⟨rs', d8, d14, d15, d22, d23, gl', w, B', ok', ht⟩ := term_loop z c0 c2 c6 c7 c9 c10 c11 c12 c13 c16 c21 ts (rs ++ [r]) (i + 1) (stepR z x r) g1 (.val (.str t)) e14 e15 e22 e23 (fun y my => by
      rcases List.mem_append.mp my with my | my
      · exact hok y my
      · rw [List.mem_singleton.mp my]; exact r1) (by rw [List.map_append]; simpa [rt] using hn) (fun y my => hz y (List.mem_cons_of_mem _ my)) (by omega) (by rw [List.length_append, List.length_singleton]; omega) (step_inv h r1) B1
    refine ⟨r :: rs', d8, d14, d15, d22, d23, gl', ?_, B', fun y my => ?_, ?_⟩
    · rw [List.map_cons]
      refine (fc_ok (by rw [ap_tgName, as_d (by simp)]; rfl) st).trans ?_
      rw [w, List.append_assoc]
      rfl
    · rcases List.mem_cons.mp my with rfl | my
      · exact r1
      · exact ok' y my
    · rw [List.append_assoc] at ht
      have := ht
      simp only [List.map_append, List.map_cons, List.map_nil, rt] at this ⊢
      simpa using this
end K11
/-! # k11: pieces of a turn -/
namespace K11
open PySem PySem.Spec PyProof.Rows L2 MI
theorem oD_filter (T : Str → Option Str) : ∀ ws : List Str, ((ws.map T).filter Option.isSome).map oD = (ws.filterMap T).map .str
  | [] => rfl
  | w :: ws => by
    have ih := oD_filter T ws
    rw [List.map_cons, List.filterMap_cons]
    cases T w with
    | none => rw [List.filter_cons_of_neg (by simp)]; exact ih
    | some x => rw [List.filter_cons_of_pos (by simp), List.map_cons, ih]; rfl
theorem oD_filter2 (T : Str → Option Str) : ∀ ws : List Str, (ws.filter fun w => (T w).isSome).map (fun w => oD (T w)) = (ws.filterMap T).map .str
  | [] => rfl
  | w :: ws => by
    have ih := oD_filter2 T ws
    rw [List.filterMap_cons]
    cases e : T w with
    | none => rw [List.filter_cons_of_neg (by simp [e])]; exact ih
    | some x => rw [List.filter_cons_of_pos (by simp [e]), List.map_cons, ih, e]; rfl
theorem notN (o : Option Str) (s : S) : opIsN true s (.d (oD o)) (.d .non) = .ok (.d (.bl o.isSome)) s := by cases o <;> rfl
theorem wish_terms_spec (r : Ru) (hr : RuOk r) (ws : List Str) (hl : ws.length ≤ 1000) (hw : ∀ w ∈ ws, w.length ≤ 1000) (gl : List MObj) : f_wish_terms [ruD r, .tup (ws.map .str)] gl = .ok (.tup ((sortS (uni (ws.filterMap (termO r)))).map .str)) gl := by
  have c1 : mComp [3] (iSeq (mVar 1)) (tgName 3) mYes e_wish_terms_2 ⟨[.val (ruD r), .val (.tup (ws.map .str)), .none, .none, .none], gl⟩ = .ok (.new (.lst ((ws.map (termO r)).map oD))) ⟨[.val (ruD r), .val (.tup (ws.map .str)), .none, .none, .none], gl⟩ := by
    rw [List.map_map]
    refine comp_mapI ws .str (oD ∘ termO r) (by simp [iSeq]) (by simp) rfl (by omega) fun x m => ?_
    have t := term_spec r hr x (hw x m) gl
    generalize ruD r = R at *
    simp [e_wish_terms_2, t]
  have c2 : mComp [4] (iSeq (mVar 2)) (tgName 4) c_wish_terms_1 (mVar 4) ⟨[.val (ruD r), .val (.tup (ws.map .str)), .own (.lst ((ws.map (termO r)).map oD)), .none, .none], gl⟩ = .ok (.new (.lst ((ws.filterMap (termO r)).map .str))) ⟨[.val (ruD r), .val (.tup (ws.map .str)), .val (.lst ((ws.map (termO r)).map oD)), .none, .none], gl⟩ := by
    rw [← oD_filter]
    refine comp_flt (ws.map (termO r)) oD oD _ (by simp [iSeq]) (by simp) rfl (by rw [List.length_map]; omega) fun x m => ⟨?_, fun _ => by simp⟩
    have nn := notN x
    simp [c_wish_terms_1, nn]
  have ss := fun s => ss_at (ks := ws.filterMap (termO r)) (by have := List.length_filterMap_le (termO r) ws; omega) (s := s)
  generalize ((sortS (uni (ws.filterMap (termO r)))).map D.str) = OUT at *
  generalize ((ws.filterMap (termO r)).map D.str) = L2 at *
  generalize ((ws.map (termO r)).map oD) = L1 at *
  generalize ws.map D.str = WS at *
  generalize ruD r = R at *
  simp [-ap_Comp, f_wish_terms, mDef, List.replicate, b_wish_terms, c1, as_new, c2, ss, ft_new]
theorem law_due (c0 c2 c3 c4 c5 c6 c7 c8 c11 c12 c13 c14 c15 c16 c17 c18 c19 c20 c21 c22 c23 : Slot) (r : Ru) (hr : RuOk r) (ws : List Str) (hl : ws.length ≤ 1000) (hw : ∀ w ∈ ws, w.length ≤ 1000) (gl : List MObj) :
    mComp [25] (iSeq (mVar 10)) (tgName 25) c_law_4 e_law_5 ⟨[c0, .val (.ref 0), c2, c3, c4, c5, c6, c7, c8, .val (ruD r), .val (.tup (ws.map .str)), c11, c12, c13, c14, c15, c16, c17, c18, c19, c20, c21, c22, c23, .none, .none], gl⟩ = .ok (.new (.lst ((ws.filterMap (termO r)).map .str))) ⟨[c0, .val (.ref 0), c2, c3, c4, c5, c6, c7, c8, .val (ruD r), .val (.tup (ws.map .str)), c11, c12, c13, c14, c15, c16, c17, c18, c19, c20, c21, c22, c23, .none, .none], gl⟩ := by
  rw [← oD_filter2]
  refine comp_flt ws .str (fun w => oD (termO r w)) _ (by simp [iSeq]) (by simp) rfl (by omega) fun x m => ?_
  have t := law_term_spec r hr x (hw x m) gl
  have nn := notN (termO r x)
  generalize ruD r = R at *
  exact ⟨by simp [c_law_4, t, nn], fun _ => by simp [e_law_5, t]⟩
/-! ### what a part is -/
theorem qN_lo2 {z : Dr} {c : Nat} (hc : c ≤ 401) {l : Nat} (hl : l ≤ 401) : 0 < qN z.many z.total c l ∧ qN z.many z.total c l ≤ 17179869184 := by
  have h1 := z.m1
  have h2 := z.t0
  have h3 := z.t1
  have e1 : 2 * c * z.total ≤ 802 * 10000400 := Nat.mul_le_mul (by omega) h3
  have e2 : l * z.many ≤ 401 * 1000000 := Nat.mul_le_mul hl h1
  unfold qN
  omega
theorem grows (many total c l : Nat) (ht : 0 < total) : pN total c * qN many total (c + 1) l < pN total (c + 1) * qN many total c l := by
  unfold pN qN
  have a1 : 4 * c * total = 4 * (c * total) := Nat.mul_assoc ..
  have a2 : 4 * (c + 1) * total = 4 * (c * total) + 4 * total := by rw [Nat.mul_add, Nat.add_mul, Nat.mul_assoc]
  have a3 : 2 * c * total = 2 * (c * total) := Nat.mul_assoc ..
  have a4 : 2 * (c + 1) * total = 2 * (c * total) + 2 * total := by rw [Nat.mul_add, Nat.add_mul, Nat.mul_assoc]
  rw [a1, a2, a3, a4]
  generalize c * total = A
  generalize l * many = L
  have e1 : 4 * A * (2 * A + 2 * total + total + L) = 8 * (A * A) + 12 * (A * total) + 4 * (A * L) := by
    simp only [Nat.mul_add, Nat.mul_assoc, Nat.mul_left_comm A 2]
    omega
  have e2 : (4 * A + 4 * total) * (2 * A + total + L) = 8 * (A * A) + 12 * (A * total) + 4 * (A * L) + 4 * (total * total) + 4 * (total * L) := by
    simp only [Nat.mul_add, Nat.add_mul, Nat.mul_assoc, Nat.mul_left_comm A 2, Nat.mul_left_comm total 2, Nat.mul_comm total A]
    omega
  have e3 : 0 < total * total := Nat.mul_pos ht ht
  rw [e1, e2]
  omega
theorem falls (many total c l : Nat) (ht : 0 < total) (hm : 0 < many) (hc : 0 < c) : pN total c * qN many total c l < pN total c * qN many total c (l + 1) := by
  have h : 0 < pN total c := Nat.mul_pos (Nat.mul_pos (by omega) hc) ht
  refine (Nat.mul_lt_mul_left h).mpr ?_
  unfold qN
  rw [Nat.add_mul]
  omega
theorem below2 (many total c l : Nat) (ht : 0 < total) : (red (pN total c) (qN many total c l)).1 < 2 * (red (pN total c) (qN many total c l)).2 := by
  have hq : 0 < qN many total c l := by unfold qN; omega
  have h := red_same (pN total c) (qN many total c l)
  have h2 : pN total c < 2 * qN many total c l := by
    unfold pN qN
    have a1 : 4 * c * total = 2 * (2 * c * total) := by rw [← Nat.mul_assoc, ← Nat.mul_assoc]
    omega
  have hp := red_pos (p := pN total c) hq
  generalize (red (pN total c) (qN many total c l)).1 = x at *
  generalize (red (pN total c) (qN many total c l)).2 = y at *
  refine Nat.lt_of_mul_lt_mul_right (a := qN many total c l) ?_
  rw [h, Nat.mul_right_comm]
  exact (Nat.mul_lt_mul_right hp).mpr h2
theorem pick2 (a b : D) (k : Nat) (hk : k < 2) (s : S) : opIx s (.d (.lst [a, b])) (.d (.int k)) = .ok (.d (if k = 0 then a else b)) s := by
  match k, hk with
  | 0, _ => rfl
  | 1, _ => rfl
end K11
/-! # k11: a turn, the law -/
namespace K11
open PySem PySem.Spec PyProof.Rows L2 MI
theorem ap_DCopy {m : M} {s : S} : mDCopy m s = (mSettle m s).bind fun r s1 => match asDic s1 r with
  | some ks => .ok (.new (.dic (mergeD [] ks))) s1
  | none => .stuck := rfl
theorem ap_PNil {s : S} : mPNil s = .ok [] s := rfl
theorem ap_PCons {k v : M} {r : S → Res (List (D × D))} {s : S} : mPCons k v r s = (mLeak k s).bind fun x s1 => (mLeak v s1).bind fun y s2 => (r s2).bind fun ps s3 => .ok ((x, y) :: ps) s3 := rfl
theorem ap_Disp {m : S → Res (List (D × D))} {s : S} : mDisp m s = (m s).bind fun ps s1 => match keysOf ps with
  | some ks => if ks.length ≤ 15 then .ok (.new (.dic (mergeD [] ks))) s1 else .stuck
  | none => .stuck := rfl
def TR4 : List Str := ["cat", "dog", "run", "x2"]
theorem tr_adj : ∀ j : Fin 5, adj (TR4.take j.val) = true := by decide +kernel
theorem tr_zoe : ∀ t ∈ TR4, t ≠ "zoe" := by decide +kernel
theorem draw2 (gl : List MObj) (hB : Tp gl) (a b : Nat) (ha : 0 < a ∧ a ≤ 10000000) (hb : 0 < b ∧ b ≤ 10000000) : ∃ (k M r : Nat) (g1 g2 : List MObj), f__law_take [.ref 0, .int 2] gl = .ok (.int k) g1 ∧ (∀ s, opIx s (.d (.lst [.int a, .int b])) (.d (.int k)) = .ok (.d (.int M)) s) ∧ f__law_take [.ref 0, .int M] g1 = .ok (.int r) g2 ∧ (r < a ∨ r < b) ∧ Tp g2 := by
  obtain ⟨k, g1, t1, k1, B1⟩ := take_spec gl 2 hB (by omega) (by omega)
  obtain ⟨M, hM, hM2⟩ : ∃ M : Nat, (if k = 0 then a else b) = M ∧ (M = a ∨ M = b) := ⟨_, rfl, by split <;> simp⟩
  have pk := pick2 (.int a) (.int b) k k1
  have e : (if k = 0 then D.int a else D.int b) = .int M := by rw [← hM]; split <;> rfl
  rw [e] at pk
  obtain ⟨r, g2, t2, r1, B2⟩ := take_spec g1 M B1 (by omega) (by omega)
  exact ⟨k, M, r, g1, g2, t1, pk, t2, by omega, B2⟩
theorem pl_rN (n : Nat) (x : Nat × Nat) : Pl (n + 2) (rN x) := .tup _ _ (by simp) (.cons _ _ _ (.int _ _) (.cons _ _ _ (.int _ _) (.nil _)))
theorem pl_strs (n : Nat) : ∀ l : List Str, PlL (n + 1) (l.map .str)
  | [] => .nil _
  | x :: l => .cons _ _ _ (.str _ _) (pl_strs n l)
def E8 : List D := [.str "a", .str "b", .str "c", .str "d", .str "e", .str "f", .str "g", .str "h"]
def wv (W : List Str) : List D := [.tup (W.map .str), .tup (W.map D.str).reverse, .tup (W.map D.str ++ cut (W.map D.str) (some (-1)) none), .tup E8, .tup (E8 ++ [.str "i"]), .tup [.str "A"], .tup [.str ""], .tup [.str "a b"], .tup [.str (repS "a" 20)], .tup [.str (repS "a" 21)], .tup [.int 1], .non, .str "a"]
theorem ok_strs {l : List Str} (hl : l.length ≤ 1000) (h : ∀ x ∈ l, x.length ≤ 1000) : Ok2 (.tup (l.map .str)) := ⟨by rw [List.length_map]; exact hl, fun y m => by
  obtain ⟨x, mx, rfl⟩ := List.mem_map.mp m
  exact h x mx⟩
theorem wv_ok {W : List Str} (hl : W.length ≤ 400) (h : ∀ x ∈ W, x.length ≤ 1000) : ∀ y ∈ wv W, Ok2 y := by
  have o : ∀ y ∈ W.map D.str, Ok1 y := (ok_strs (by omega) h).2
  have ll : (W.map D.str).length ≤ 400 := by rw [List.length_map]; exact hl
  have c2 := cut_len (W.map D.str) (some (-1)) none
  have one : ∀ x : Str, x.length ≤ 1000 → Ok2 (.tup [.str x]) := fun x hx => ⟨by simp, fun y m => by rw [List.mem_singleton.mp m]; exact hx⟩
  have e8 : ∀ y ∈ E8, Ok1 y := by
    have : E8 = (["a", "b", "c", "d", "e", "f", "g", "h"] : List Str).map .str := rfl
    rw [this]
    exact (ok_strs (by simp) (by decide)).2
  intro y m
  unfold wv at m
  simp only [List.mem_cons, List.not_mem_nil, or_false] at m
  rcases m with rfl | rfl | rfl | rfl | rfl | rfl | rfl | rfl | rfl | rfl | rfl | rfl | rfl
  · exact ok_strs (by omega) h
  · exact ⟨by rw [List.length_reverse]; omega, fun x m => o x (List.mem_reverse.mp m)⟩
  · refine ⟨by rw [List.length_append]; omega, fun x m => ?_⟩
    rcases List.mem_append.mp m with m | m
    · exact o x m
    · exact o x (cut_mem m)
  · exact ⟨by simp [E8], e8⟩
  · refine ⟨by simp [E8], fun x m => ?_⟩
    rcases List.mem_append.mp m with m | m
    · exact e8 x m
    · rw [List.mem_singleton.mp m]; exact show Str.length "i" ≤ 1000 by decide
  · exact one _ (by decide)
  · exact one _ (by decide)
  · exact one _ (by decide)
  · exact one _ (by decide +kernel)
  · exact one _ (by decide +kernel)
  · exact ⟨by simp, fun y m => by rw [List.mem_singleton.mp m]; exact trivial⟩
  · exact trivial
  · exact show Str.length "a" ≤ 1000 by decide
theorem turn (gl : List MObj) (hB : Tp gl) (c0 c2 c3 c4 c5 c6 c7 c8 c9 c10 c11 c12 c13 c14 c15 c16 c17 c18 c19 c20 c21 c22 c23 : Slot) :
    ∃ g3 g4 g5 g6 g7 g8 g9 g10 g11 g12 g13 g14 g15 g16 g17 g18 g19 g20 g21 g22 g23 gl', l_law_8 ⟨[c0, .val (.ref 0), c2, c3, c4, c5, c6, c7, c8, c9, c10, c11, c12, c13, c14, c15, c16, c17, c18, c19, c20, c21, c22, c23, .none, .none], gl⟩ = .ok .nx ⟨[c0, .val (.ref 0), c2, g3, g4, g5, g6, g7, g8, g9, g10, g11, g12, g13, g14, g15, g16, g17, g18, g19, g20, g21, g22, g23, .none, .none], gl'⟩ ∧ Tp gl' := by
  have p6 : ∀ s, opPow s (.d (.int 10)) (.d (.int 6)) = .ok (.d (.int 1000000)) s := fun s => rfl
  have p7 : ∀ s, opPow s (.d (.int 10)) (.d (.int 7)) = .ok (.d (.int 10000000)) s := fun s => rfl
  obtain ⟨ka, Ma, ra, h1, h2, ta, xa, ta', la, Ba⟩ := draw2 gl hB 5 1000000 (by omega) (by omega)
  obtain ⟨kb, Mb, rb, h3, h4, tb, xb, tb', lb, Bb⟩ := draw2 h2 Ba 12 400 (by omega) (by omega)
  obtain ⟨kc, Mc, rc, h5, h6, tc, xc, tc', lc, Bc⟩ := draw2 h4 Bb 40 10000000 (by omega) (by omega)
  obtain ⟨many, hmany⟩ : ∃ many : Nat, many = 1 + ra := ⟨_, rfl⟩
  obtain ⟨len, hlen⟩ : ∃ len : Nat, len = 1 + rb := ⟨_, rfl⟩
  obtain ⟨total, htotal⟩ : ∃ total : Nat, total = len + rc := ⟨_, rfl⟩
  have em : (1 : Int) + ra = (many : Nat) := by omega
  have el : (1 : Int) + rb = (len : Nat) := by omega
  have et : (len : Int) + rc = (total : Nat) := by omega
  obtain ⟨z, zm, zt, zl⟩ : ∃ z : Dr, z.many = many ∧ z.total = total ∧ z.len = len := ⟨⟨many, total, len, by omega, by omega, by omega, by omega⟩, rfl, rfl, rfl⟩
  obtain ⟨hv, g4, th, hv1, B4⟩ := take_spec h6 (many + 1) Bc (by omega) (by omega)
  obtain ⟨c, g5, tcc, c1', B5⟩ := take_spec g4 (len + 1) B4 (by omega) (by omega)
  have q400 : c ≤ 400 := by omega
  obtain ⟨q0, q1⟩ := qN_lo2 (z := z) (c := c) (l := len) (by omega) (by omega)
  obtain ⟨q0', q1'⟩ := qN_lo2 (z := z) (c := c + 1) (l := len) (by omega) (by omega)
  obtain ⟨q0'', q1''⟩ := qN_lo2 (z := z) (c := c) (l := len + 1) (by omega) (by omega)
  rw [zm, zt] at q0 q1 q0' q1' q0'' q1''
  have ht0 : 0 < total := by omega
  have hp1 : pN total c ≤ 1600 * 10000400 := Nat.mul_le_mul (by omega) (by omega)
  have hp2 : pN total (c + 1) ≤ 1604 * 10000400 := Nat.mul_le_mul (by omega) (by omega)
  have x1 := red_le1 (pN total c) (qN many total c len)
  have x2 := red_le2 (pN total c) (qN many total c len)
  have y2 := red_le2 (pN total (c + 1)) (qN many total (c + 1) len)
  have w2 := red_le2 (pN total c) (qN many total c (len + 1))
  have lw1 := low_spec (pN total c) (qN many total c len) q0 (few_64 (by omega)) (few_64 (by omega)) g5
  have ps1 := part_spec many total c len ht0 (by omega) (by omega) (few_64 (by omega)) g5
  have ps2 := part_spec many total (c + 1) len ht0 (by omega) (by omega) (few_64 (by omega)) g5
  have ps3 := part_spec many total c (len + 1) ht0 (by omega) (by omega) (few_64 (by omega)) g5
  have wt := weight_spec many hv (by omega) g5
  have lw2 := low_spec (many + 1) (hv + 1) (by omega) (few_64 (by omega)) (few_64 (by omega)) g5
  have sm1 := same_refl g5 6 (.tup [rN (red (many + 1) (hv + 1)), rN (red (pN total c) (qN many total c len))]) (.tup _ _ (by simp) (.cons _ _ _ (pl_rN 3 _) (.cons _ _ _ (pl_rN 3 _) (.nil _))))
  have ir := is_ratio_spec (pN total c) (qN many total c len) q0 (few_64 (by omega)) g5
  have b1 := below_spec (red (pN total c) (qN many total c len)) (red (pN total (c + 1)) (qN many total (c + 1) len)) (by omega) (by omega) g5
  rw [decide_eq_true ((lt_cross q0 q0' _ _ (red_same _ _) (red_same _ _) (red_pos q0) (red_pos q0')).mpr (grows many total c len ht0))] at b1
  have b2 : 0 < c → f_is_below [rN (red (pN total c) (qN many total c (len + 1))), rN (red (pN total c) (qN many total c len))] g5 = .ok (.bl true) g5 := fun hc => by
    have b := below_spec (red (pN total c) (qN many total c (len + 1))) (red (pN total c) (qN many total c len)) (by omega) (by omega) g5
    rwa [decide_eq_true ((lt_cross q0'' q0 _ _ (red_same _ _) (red_same _ _) (red_pos q0'') (red_pos q0)).mpr (falls many total c len ht0 (by omega) hc))] at b
  have b3 := below2 many total c len ht0
  -- the statements
  have s1 : (mSet 3 (mBin opAdd (mC (.int 1)) (mCall f__law_take (mACons (mVar 1) (mACons (mBin opIx (mLst (mACons (mC (.int 5)) (mACons (mBin opPow (mC (.int 10)) (mC (.int 6))) mANil))) (mCall f__law_take (mACons (mVar 1) (mACons (mC (.int 2)) mANil)))) mANil))))) ⟨[c0, .val (.ref 0), c2, c3, c4, c5, c6, c7, c8, c9, c10, c11, c12, c13, c14, c15, c16, c17, c18, c19, c20, c21, c22, c23, .none, .none], gl⟩ = .ok .nx ⟨[c0, .val (.ref 0), c2, .val (.int many), c4, c5, c6, c7, c8, c9, c10, c11, c12, c13, c14, c15, c16, c17, c18, c19, c20, c21, c22, c23, .none, .none], h2⟩ := by
    have sz2 : 2 ≤ sizeLine := szN _ (by omega)
    have e5 : ((5 : Nat) : Int) = 5 := rfl
    have e6 : ((1000000 : Nat) : Int) = 1000000 := rfl
    rw [e5, e6] at xa
    simp [p6, sz2, ta, xa, ta', em, as_d]
  have s2 : (mSet 4 (mBin opAdd (mC (.int 1)) (mCall f__law_take (mACons (mVar 1) (mACons (mBin opIx (mLst (mACons (mC (.int 12)) (mACons (mC (.int 400)) mANil))) (mCall f__law_take (mACons (mVar 1) (mACons (mC (.int 2)) mANil)))) mANil))))) ⟨[c0, .val (.ref 0), c2, .val (.int many), c4, c5, c6, c7, c8, c9, c10, c11, c12, c13, c14, c15, c16, c17, c18, c19, c20, c21, c22, c23, .none, .none], h2⟩ = .ok .nx ⟨[c0, .val (.ref 0), c2, .val (.int many), .val (.int len), c5, c6, c7, c8, c9, c10, c11, c12, c13, c14, c15, c16, c17, c18, c19, c20, c21, c22, c23, .none, .none], h4⟩ := by
    have sz2 : 2 ≤ sizeLine := szN _ (by omega)
    have e5 : ((12 : Nat) : Int) = 12 := rfl
    have e6 : ((400 : Nat) : Int) = 400 := rfl
    rw [e5, e6] at xb
    simp [sz2, tb, xb, tb', el, as_d]
  have s3 : (mSet 5 (mBin opAdd (mVar 4) (mCall f__law_take (mACons (mVar 1) (mACons (mBin opIx (mLst (mACons (mC (.int 40)) (mACons (mBin opPow (mC (.int 10)) (mC (.int 7))) mANil))) (mCall f__law_take (mACons (mVar 1) (mACons (mC (.int 2)) mANil)))) mANil))))) ⟨[c0, .val (.ref 0), c2, .val (.int many), .val (.int len), c5, c6, c7, c8, c9, c10, c11, c12, c13, c14, c15, c16, c17, c18, c19, c20, c21, c22, c23, .none, .none], h4⟩ = .ok .nx ⟨[c0, .val (.ref 0), c2, .val (.int many), .val (.int len), .val (.int total), c6, c7, c8, c9, c10, c11, c12, c13, c14, c15, c16, c17, c18, c19, c20, c21, c22, c23, .none, .none], h6⟩ := by
    have sz2 : 2 ≤ sizeLine := szN _ (by omega)
    have e5 : ((40 : Nat) : Int) = 40 := rfl
    have e6 : ((10000000 : Nat) : Int) = 10000000 := rfl
    rw [e5, e6] at xc
    simp [p7, sz2, tc, xc, tc', et, as_d]
  have am := addN many 1
  have al := addN len 1
  have ac := addN c 1
  have e1 : ((1 : Nat) : Int) = 1 := rfl
  rw [e1] at am al ac
  have s4 : (mParN [14, 15] (mRCons (mCall f__law_take (mACons (mVar 1) (mACons (mBin opAdd (mVar 3) (mC (.int 1))) mANil))) (mRCons (mCall f__law_take (mACons (mVar 1) (mACons (mBin opAdd (mVar 4) (mC (.int 1))) mANil))) mRNil))) ⟨[c0, .val (.ref 0), c2, .val (.int many), .val (.int len), .val (.int total), c6, c7, c8, c9, c10, c11, c12, c13, c14, c15, c16, c17, c18, c19, c20, c21, c22, c23, .none, .none], h6⟩ = .ok .nx ⟨[c0, .val (.ref 0), c2, .val (.int many), .val (.int len), .val (.int total), c6, c7, c8, c9, c10, c11, c12, c13, .val (.int hv), .val (.int c), c16, c17, c18, c19, c20, c21, c22, c23, .none, .none], g5⟩ := by
    generalize many + 1 = A at am th
    generalize len + 1 = L at al tcc
    simp [-q_add, am, al, th, tcc, as_d]
  have m1 := mulL 4 c (by omega)
  have m2 := mulR (4 * c) total (by omega)
  have m3 := mulL 2 c (by omega)
  have m4 := mulR (2 * c) total (by omega)
  have m5 := mulR len many (by omega)
  have a1 := addN (2 * c * total) total
  have a2 := addN (2 * c * total + total) (len * many)
  have s5 : (mSet 6 (mCall f__law_low (mACons (mBin opMul (mBin opMul (mC (.int 4)) (mVar 15)) (mVar 5)) (mACons (mBin opAdd (mBin opAdd (mBin opMul (mBin opMul (mC (.int 2)) (mVar 15)) (mVar 5)) (mVar 5)) (mBin opMul (mVar 4) (mVar 3))) mANil)))) ⟨[c0, .val (.ref 0), c2, .val (.int many), .val (.int len), .val (.int total), c6, c7, c8, c9, c10, c11, c12, c13, .val (.int hv), .val (.int c), c16, c17, c18, c19, c20, c21, c22, c23, .none, .none], g5⟩ = .ok .nx ⟨[c0, .val (.ref 0), c2, .val (.int many), .val (.int len), .val (.int total), .val (rN (red (pN total c) (qN many total c len))), c7, c8, c9, c10, c11, c12, c13, .val (.int hv), .val (.int c), c16, c17, c18, c19, c20, c21, c22, c23, .none, .none], g5⟩ := by
    clear s1 s2 s3 s4 ps1 ps2 ps3 sm1 ir b1 b2 b3 x1 x2 y2 w2
    generalize rN (red (pN total c) (qN many total c len)) = PR at lw1 ⊢
    unfold pN qN at lw1
    generalize 2 * c * total + total + len * many = Q at *
    generalize 2 * c * total + total = Q1 at *
    generalize 2 * c * total = Q2 at *
    generalize 2 * c = Q3 at *
    generalize 4 * c * total = P1 at *
    generalize 4 * c = P2 at *
    generalize len * many = P3 at *
    have e4 : ((4 : Nat) : Int) = 4 := rfl
    have e2 : ((2 : Nat) : Int) = 2 := rfl
    rw [e4] at m1
    rw [e2] at m3
    simp [-q_add, m1, m2, m3, m4, m5, a1, a2, lw1, as_d]
  have s6 : (mSet 7 (mCall f_part_of (mACons (mVar 3) (mACons (mVar 5) (mACons (mVar 15) (mACons (mVar 4) mANil)))))) ⟨[c0, .val (.ref 0), c2, .val (.int many), .val (.int len), .val (.int total), .val (rN (red (pN total c) (qN many total c len))), c7, c8, c9, c10, c11, c12, c13, .val (.int hv), .val (.int c), c16, c17, c18, c19, c20, c21, c22, c23, .none, .none], g5⟩ = .ok .nx ⟨[c0, .val (.ref 0), c2, .val (.int many), .val (.int len), .val (.int total), .val (rN (red (pN total c) (qN many total c len))), .val (rN (red (pN total c) (qN many total c len))), c8, c9, c10, c11, c12, c13, .val (.int hv), .val (.int c), c16, c17, c18, c19, c20, c21, c22, c23, .none, .none], g5⟩ := by
    generalize rN (red (pN total c) (qN many total c len)) = PR at ps1 ⊢
    simp [ps1, as_d]
  have s7 : (mIfS (mOrT (mNotT (mTru (mCall (f__law_same 6) (mACons (mTup (mACons (mCall f_weight_of (mACons (mVar 3) (mACons (mVar 14) mANil))) (mACons (mVar 7) mANil))) (mACons (mTup (mACons (mCall f__law_low (mACons (mBin opAdd (mVar 3) (mC (.int 1))) (mACons (mBin opAdd (mVar 14) (mC (.int 1))) mANil))) (mACons (mVar 6) mANil))) mANil))))) (mBl (mBin (opIsB true) (mCall f_is_ratio (mACons (mVar 7) mANil)) (mC (.bl true))))) (mRet (mC (.bl false))) mNx) ⟨[c0, .val (.ref 0), c2, .val (.int many), .val (.int len), .val (.int total), .val (rN (red (pN total c) (qN many total c len))), .val (rN (red (pN total c) (qN many total c len))), c8, c9, c10, c11, c12, c13, .val (.int hv), .val (.int c), c16, c17, c18, c19, c20, c21, c22, c23, .none, .none], g5⟩ = .ok .nx ⟨[c0, .val (.ref 0), c2, .val (.int many), .val (.int len), .val (.int total), .val (rN (red (pN total c) (qN many total c len))), .val (rN (red (pN total c) (qN many total c len))), c8, c9, c10, c11, c12, c13, .val (.int hv), .val (.int c), c16, c17, c18, c19, c20, c21, c22, c23, .none, .none], g5⟩ := by
    have ah := addN hv 1
    rw [e1] at ah
    generalize rN (red (pN total c) (qN many total c len)) = PR at sm1 ir ⊢
    generalize rN (red (many + 1) (hv + 1)) = WR at wt lw2 sm1
    generalize many + 1 = A at am lw2
    generalize hv + 1 = H at ah lw2
    have ib : ∀ s, opIsB true s (.d (.bl true)) (.d (.bl true)) = .ok (.d (.bl false)) s := fun s => rfl
    simp [-q_add, wt, am, ah, lw2, sm1, ir, ib, asD, truthD]
  have s8 : (mIfS (mOrT (mNotT (mTru (mCall f_is_below (mACons (mVar 7) (mACons (mCall f_part_of (mACons (mVar 3) (mACons (mVar 5) (mACons (mBin opAdd (mVar 15) (mC (.int 1))) (mACons (mVar 4) mANil))))) mANil))))) (mOrT (mAndT (mBl (mBin opGt (mVar 15) (mC (.int 0)))) (mNotT (mTru (mCall f_is_below (mACons (mCall f_part_of (mACons (mVar 3) (mACons (mVar 5) (mACons (mVar 15) (mACons (mBin opAdd (mVar 4) (mC (.int 1))) mANil))))) (mACons (mVar 7) mANil)))))) (mBl (mBin opGe (mBin opIx (mVar 7) (mC (.int 0))) (mBin opMul (mC (.int 2)) (mBin opIx (mVar 7) (mC (.int 1)))))))) (mRet (mC (.bl false))) mNx) ⟨[c0, .val (.ref 0), c2, .val (.int many), .val (.int len), .val (.int total), .val (rN (red (pN total c) (qN many total c len))), .val (rN (red (pN total c) (qN many total c len))), c8, c9, c10, c11, c12, c13, .val (.int hv), .val (.int c), c16, c17, c18, c19, c20, c21, c22, c23, .none, .none], g5⟩ = .ok .nx ⟨[c0, .val (.ref 0), c2, .val (.int many), .val (.int len), .val (.int total), .val (rN (red (pN total c) (qN many total c len))), .val (rN (red (pN total c) (qN many total c len))), c8, c9, c10, c11, c12, c13, .val (.int hv), .val (.int c), c16, c17, c18, c19, c20, c21, c22, c23, .none, .none], g5⟩ := by
    have i0 : ∀ s, opIx s (.d (rN (red (pN total c) (qN many total c len)))) (.d (.int 0)) = .ok (.d (.int (red (pN total c) (qN many total c len)).1)) s := fun s => ix0 _ _ s
    have i1 : ∀ s, opIx s (.d (rN (red (pN total c) (qN many total c len)))) (.d (.int 1)) = .ok (.d (.int (red (pN total c) (qN many total c len)).2)) s := fun s => ix1 _ _ s
    have mm := mulL 2 (red (pN total c) (qN many total c len)).2 (by omega)
    have ge : ∀ s, opGe s (.d (.int (red (pN total c) (qN many total c len)).1)) (.d (.int (2 * (red (pN total c) (qN many total c len)).2 : Nat))) = .ok (.d (.bl false)) s := fun s => by rw [q_ge, decide_eq_false (by omega)]
    have e2 : ((2 : Nat) : Int) = 2 := rfl
    rw [e2] at mm
    generalize rN (red (pN total (c + 1)) (qN many total (c + 1) len)) = PR2 at ps2 b1
    generalize rN (red (pN total c) (qN many total c (len + 1))) = PR3 at ps3 b2
    generalize 2 * (red (pN total c) (qN many total c len)).2 = Y2 at mm ge
    generalize (red (pN total c) (qN many total c len)).1 = Y0 at i0 ge
    generalize (red (pN total c) (qN many total c len)).2 = Y1 at i1 mm
    generalize rN (red (pN total c) (qN many total c len)) = PR at i0 i1 b1 b2 ⊢
    generalize c + 1 = C1 at ac ps2
    generalize len + 1 = L1 at al ps3
    by_cases hc : 0 < c
    · have b2 := b2 hc
      have gc : ∀ s, opGt s (.d (.int c)) (.d (.int 0)) = .ok (.d (.bl true)) s := fun s => by rw [q_gt, decide_eq_true (by omega)]
      simp [-q_add, -q_gt, -q_ge, ac, ps2, b1, al, ps3, b2, i0, i1, mm, ge, gc, asD, truthD]
    · have gc : ∀ s, opGt s (.d (.int c)) (.d (.int 0)) = .ok (.d (.bl false)) s := fun s => by rw [q_gt, decide_eq_false (by omega)]
      simp [-q_add, -q_gt, -q_ge, ac, ps2, b1, i0, i1, mm, ge, gc, asD, truthD]
  have s9 : (mParN [16, 17, 18, 19, 20] (mRCons (mLst (mACons (mC (.str "cat")) (mACons (mC (.str "dog")) (mACons (mC (.str "run")) (mACons (mC (.str "x2")) mANil))))) (mRCons (mC (.int 0)) (mRCons (mC (.int 1)) (mRCons mDNew (mRCons mDNew mRNil)))))) ⟨[c0, .val (.ref 0), c2, .val (.int many), .val (.int len), .val (.int total), .val (rN (red (pN total c) (qN many total c len))), .val (rN (red (pN total c) (qN many total c len))), c8, c9, c10, c11, c12, c13, .val (.int hv), .val (.int c), c16, c17, c18, c19, c20, c21, c22, c23, .none, .none], g5⟩ = .ok .nx ⟨[c0, .val (.ref 0), c2, .val (.int many), .val (.int len), .val (.int total), .val (rN (red (pN total c) (qN many total c len))), .val (rN (red (pN total c) (qN many total c len))), c8, c9, c10, c11, c12, c13, .val (.int hv), .val (.int c), .own (.lst (TR4.map .str)), .val (.int 0), .val (.int 1), .own (.dic []), .own (.dic []), c21, c22, c23, .none, .none], g5⟩ := by
    simp [as_d, as_new, TR4]
  -- terms
  obtain ⟨kt, g5a, t10, k4, B5a⟩ := take_spec g5 4 B5 (by omega) (by omega)
  have t10 : f__law_take [.ref 0, .int 4] g5 = .ok (.int kt) g5a := t10
  obtain ⟨ts, hts⟩ : ∃ ts, ts = TR4.take (kt + 1) := ⟨_, rfl⟩
  have htl : ts.length ≤ 4 := by rw [hts, List.length_take]; omega
  have hta : adj ts = true := by rw [hts]; exact tr_adj ⟨kt + 1, by omega⟩
  have htn : ts.Nodup := (adj_pw hta).imp fun {a b} q e => by rw [e, lt_irr] at q; cases q
  have htz : ∀ t ∈ ts, t ≠ "zoe" := fun t m => tr_zoe t (by rw [hts] at m; exact List.mem_of_mem_take m)
  have sl16 : ∀ s, asLst s (.at 16) = some (TR4.map .str) → opSl none (some ((1 : Int) + kt)) s (.at 16) = .ok (.new (.lst (ts.map .str))) s := fun s h => by
    unfold opSl
    simp only [asTup, h]
    rw [show ((1 : Int) + kt) = ((kt + 1 : Nat) : Int) by omega, cut_hi', ← List.map_take, hts]
  clear m1 m2 m3 m4 m5 a1 a2 am al ac lw1 lw2 ps1 ps2 ps3 wt sm1 ir b1 b2 b3 x1 x2 y2 w2 hp1 hp2 q0 q1 q0' q1' q0'' q1'' q400 em el et
  subst zm zt zl
  obtain ⟨rs, d8, d14, d15, d22, d23, g6, wl, B6, rok, rt⟩ := term_loop z c0 c2 (.val (rN (red (pN z.total c) (qN z.many z.total c z.len)))) (.val (rN (red (pN z.total c) (qN z.many z.total c z.len)))) c9 c10 c11 c12 c13 (.own (.lst (TR4.map .str))) c21 ts [] 0 (0, 1) g5a c8 (.val (.int hv)) (.val (.int c)) c22 c23 (fun r m => nomatch m) (by simpa using htn) htz (by omega) (by simp; omega) ⟨by simp, by decide, by simp, by simp⟩ B5a
  rw [List.nil_append] at wl rt
  rw [List.map_nil, List.nil_append] at rt
  obtain ⟨x, hx⟩ : ∃ x, foldR z (0, 1) rs = x := ⟨_, rfl⟩
  rw [hx] at wl
  have wl : forGo (tgName 8) l_law_7 (ts.map .str) ⟨[c0, .val (.ref 0), c2, .val (.int z.many), .val (.int z.len), .val (.int z.total), .val (rN (red (pN z.total c) (qN z.many z.total c z.len))), .val (rN (red (pN z.total c) (qN z.many z.total c z.len))), c8, c9, c10, c11, c12, c13, .val (.int hv), .val (.int c), .own (.lst (TR4.map .str)), .val (.int 0), .val (.int 1), .own (.dic []), .own (.dic []), c21, c22, c23, .none, .none], g5a⟩ = .ok .nx ⟨[c0, .val (.ref 0), c2, .val (.int z.many), .val (.int z.len), .val (.int z.total), .val (rN (red (pN z.total c) (qN z.many z.total c z.len))), .val (rN (red (pN z.total c) (qN z.many z.total c z.len))), d8, c9, c10, c11, c12, c13, d14, d15, .own (.lst (TR4.map .str)), .val (.int x.1), .val (.int x.2), .own (.dic (WD z rs)), .own (.dic (CD rs)), c21, d22, d23, .none, .none], g6⟩ := wl
  have rl : rs.length ≤ 4 := by rw [← List.length_map (f := (·.t)), rt]; exact htl
  have s10 : (mFor (iSeq (mSlice (mVar 16) mNoPart (mPart (mBin opAdd (mC (.int 1)) (mCall f__law_take (mACons (mVar 1) (mACons (mC (.int 4)) mANil))))))) (tgName 8) l_law_7) ⟨[c0, .val (.ref 0), c2, .val (.int z.many), .val (.int z.len), .val (.int z.total), .val (rN (red (pN z.total c) (qN z.many z.total c z.len))), .val (rN (red (pN z.total c) (qN z.many z.total c z.len))), c8, c9, c10, c11, c12, c13, .val (.int hv), .val (.int c), .own (.lst (TR4.map .str)), .val (.int 0), .val (.int 1), .own (.dic []), .own (.dic []), c21, c22, c23, .none, .none], g5⟩ = .ok .nx ⟨[c0, .val (.ref 0), c2, .val (.int z.many), .val (.int z.len), .val (.int z.total), .val (rN (red (pN z.total c) (qN z.many z.total c z.len))), .val (rN (red (pN z.total c) (qN z.many z.total c z.len))), d8, c9, c10, c11, c12, c13, d14, d15, .own (.lst (TR4.map .str)), .val (.int x.1), .val (.int x.2), .own (.dic (WD z rs)), .own (.dic (CD rs)), c21, d22, d23, .none, .none], g6⟩ := by
    generalize ts.map D.str = TS at sl16 wl
    generalize TR4.map D.str = TR at sl16 wl ⊢
    generalize WD z rs = WW at wl ⊢
    generalize CD rs = CC at wl ⊢
    simp [t10, asInt, sl16, asLst, iSeq, wl]
  have rn : (rs.map (·.t)).Nodup := rt ▸ htn
  have dz : dput (CD rs) (.inr "zoe") (.int 3) = CD rs ++ zoe := dput_new fun y my e => by
    obtain ⟨r, mr, rfl⟩ := List.mem_map.mp my
    exact (rok r (List.mem_filter.mp mr).1).2.2.2 (Sum.inr.inj e)
  have lC : (CD rs).length < sizeLine := by
    rw [sizeLine_eq]
    unfold CD
    have := (List.filter_sublist (p := fun r : Rs => r.pr) (l := rs)).length_le
    rw [List.length_map]
    omega
  have s11 : (mDPut (mC (.int 3)) (mVar 20) (mC (.str "zoe"))) ⟨[c0, .val (.ref 0), c2, .val (.int z.many), .val (.int z.len), .val (.int z.total), .val (rN (red (pN z.total c) (qN z.many z.total c z.len))), .val (rN (red (pN z.total c) (qN z.many z.total c z.len))), d8, c9, c10, c11, c12, c13, d14, d15, .own (.lst (TR4.map .str)), .val (.int x.1), .val (.int x.2), .own (.dic (WD z rs)), .own (.dic (CD rs)), c21, d22, d23, .none, .none], g6⟩ = .ok .nx ⟨[c0, .val (.ref 0), c2, .val (.int z.many), .val (.int z.len), .val (.int z.total), .val (rN (red (pN z.total c) (qN z.many z.total c z.len))), .val (rN (red (pN z.total c) (qN z.many z.total c z.len))), d8, c9, c10, c11, c12, c13, d14, d15, .own (.lst (TR4.map .str)), .val (.int x.1), .val (.int x.2), .own (.dic (WD z rs)), .own (.dic (CD rs ++ zoe)), c21, d22, d23, .none, .none], g6⟩ := by
    have kz : keyOf (.str "zoe") = some (.inr "zoe") := rfl
    rw [← dz]
    generalize CD rs = CC at lC ⊢
    generalize WD z rs = WW
    simp [kz, lC]
  have mgW : mergeD [] (WD z rs) = WD z rs := by
    have := merge_new (WD z rs) [] (by
      rw [List.nil_append]
      unfold WD
      rw [List.map_map]
      have e : ((fun y : Key × D => y.1) ∘ kW z) = (fun t : Str => (Sum.inr t : Key)) ∘ (·.t) := rfl
      rw [e, ← List.map_map]
      exact List.Pairwise.map _ (fun a b h q => h (Sum.inr.inj q)) rn)
    rwa [List.nil_append] at this
  have mgC : mergeD [] (CD rs ++ zoe) = CD rs ++ zoe := by
    have := merge_new (CD rs ++ zoe) [] (by
      rw [List.nil_append, List.map_append]
      rw [List.nodup_append]
      refine ⟨?_, by simp [zoe], fun a ma b mb e => ?_⟩
      · unfold CD
        rw [List.map_map]
        have e : ((fun y : Key × D => y.1) ∘ kC) = (fun t : Str => (Sum.inr t : Key)) ∘ (·.t) := rfl
        rw [e, ← List.map_map]
        exact List.Pairwise.map _ (fun a b h q => h (Sum.inr.inj q)) (List.Nodup.sublist ((List.filter_sublist).map _) rn)
      · obtain ⟨y, my, rfl⟩ := List.mem_map.mp ma
        obtain ⟨r, mr, rfl⟩ := List.mem_map.mp my
        rw [show b = .inr "zoe" by simpa [zoe] using mb] at e
        exact (rok r (List.mem_filter.mp mr).1).2.2.2 (Sum.inr.inj e))
    rwa [List.nil_append] at this
  have sc := score_spec z rs (rt ▸ hta) rok rl g6
  rw [hx] at sc
  have sm2 := same_refl g6 6 (rN x) (pl_rN 4 _)
  have s12 : (mIfS (mNotT (mTru (mCall (f__law_same 6) (mACons (mCall f_score_of (mACons (mVar 3) (mACons (mVar 5) (mACons (mDCopy (mVar 19)) (mACons (mDCopy (mVar 20)) (mACons (mVar 4) mANil)))))) (mACons (mTup (mACons (mVar 17) (mACons (mVar 18) mANil))) mANil))))) (mRet (mC (.bl false))) mNx) ⟨[c0, .val (.ref 0), c2, .val (.int z.many), .val (.int z.len), .val (.int z.total), .val (rN (red (pN z.total c) (qN z.many z.total c z.len))), .val (rN (red (pN z.total c) (qN z.many z.total c z.len))), d8, c9, c10, c11, c12, c13, d14, d15, .own (.lst (TR4.map .str)), .val (.int x.1), .val (.int x.2), .own (.dic (WD z rs)), .own (.dic (CD rs ++ zoe)), c21, d22, d23, .none, .none], g6⟩ = .ok .nx ⟨[c0, .val (.ref 0), c2, .val (.int z.many), .val (.int z.len), .val (.int z.total), .val (rN (red (pN z.total c) (qN z.many z.total c z.len))), .val (rN (red (pN z.total c) (qN z.many z.total c z.len))), d8, c9, c10, c11, c12, c13, d14, d15, .own (.lst (TR4.map .str)), .val (.int x.1), .val (.int x.2), .own (.dic (WD z rs)), .own (.dic (CD rs ++ zoe)), c21, d22, d23, .none, .none], g6⟩ := by
    unfold rN at sc sm2
    generalize WD z rs = WW at sc mgW ⊢
    generalize CD rs ++ zoe = CZ at sc mgC ⊢
    simp [ap_DCopy, asDic, mgW, mgC, sc, sm2, asD, truthD]
  obtain ⟨ru, g7, rus, B7, rok2⟩ := rules_spec g6 B6
  have s13 : (mSet 9 (mCall f__law_rules (mACons (mVar 1) mANil))) ⟨[c0, .val (.ref 0), c2, .val (.int z.many), .val (.int z.len), .val (.int z.total), .val (rN (red (pN z.total c) (qN z.many z.total c z.len))), .val (rN (red (pN z.total c) (qN z.many z.total c z.len))), d8, c9, c10, c11, c12, c13, d14, d15, .own (.lst (TR4.map .str)), .val (.int x.1), .val (.int x.2), .own (.dic (WD z rs)), .own (.dic (CD rs ++ zoe)), c21, d22, d23, .none, .none], g6⟩ = .ok .nx ⟨[c0, .val (.ref 0), c2, .val (.int z.many), .val (.int z.len), .val (.int z.total), .val (rN (red (pN z.total c) (qN z.many z.total c z.len))), .val (rN (red (pN z.total c) (qN z.many z.total c z.len))), d8, .val (ruD ru), c10, c11, c12, c13, d14, d15, .own (.lst (TR4.map .str)), .val (.int x.1), .val (.int x.2), .own (.dic (WD z rs)), .own (.dic (CD rs ++ zoe)), c21, d22, d23, .none, .none], g7⟩ := by
    generalize ruD ru = RU at rus ⊢
    simp [rus, as_d]
  -- wishes
  obtain ⟨kw, g7a, t14, k14, B7a⟩ := take_spec g7 9 B7 (by omega) (by omega)
  have t14 : f__law_take [.ref 0, .int 9] g7 = .ok (.int kw) g7a := t14
  have rg : rng1 (kw : Int) = some (rangeD 0 kw) := rng1_nat (by omega)
  obtain ⟨ys, g8, wc, B8, ay⟩ := comp_inv (v := 24) (e := e_law_6) (env := [c0, .val (.ref 0), c2, .val (.int z.many), .val (.int z.len), .val (.int z.total), .val (rN (red (pN z.total c) (qN z.many z.total c z.len))), .val (rN (red (pN z.total c) (qN z.many z.total c z.len))), d8, .val (ruD ru), c10, c11, c12, c13, d14, d15, .own (.lst (TR4.map .str)), .val (.int x.1), .val (.int x.2), .own (.dic (WD z rs)), .own (.dic (CD rs ++ zoe)), c21, d22, d23, .none, .none]) (gl := g7a) (P := Tp) (R := fun _ y => ∃ w : Str, y = .str w ∧ w.length ≤ 1000) (it := iRange1 (mACons (mCall f__law_take (mACons (mVar 1) (mACons (mC (.int 9)) mANil))) mANil)) (s0 := ⟨[c0, .val (.ref 0), c2, .val (.int z.many), .val (.int z.len), .val (.int z.total), .val (rN (red (pN z.total c) (qN z.many z.total c z.len))), .val (rN (red (pN z.total c) (qN z.many z.total c z.len))), d8, .val (ruD ru), c10, c11, c12, c13, d14, d15, .own (.lst (TR4.map .str)), .val (.int x.1), .val (.int x.2), .own (.dic (WD z rs)), .own (.dic (CD rs ++ zoe)), c21, d22, d23, .none, .none], g7⟩) (ds := rangeD 0 kw) (by
      generalize rangeD 0 kw = RD at rg ⊢
      generalize ruD ru = RU
      generalize WD z rs = WW
      generalize CD rs ++ zoe = CZ
      simp [t14, rg]) (by simp) rfl B7a (szN _ (by rw [show (rangeD 0 kw).length = kw by rw [rangeD_map]; simp]; omega)) (fun d m gl hP => by
      obtain ⟨w, gl', e, B', hw⟩ := word_spec gl hP
      exact ⟨.str w, gl', by simp [e_law_6, e], B', w, rfl, hw⟩)
  obtain ⟨ws, hws, wsl, wsk⟩ := words_of ay
  have wsl : ws.length ≤ 8 := by rw [wsl, rangeD_map]; simp; omega
  obtain ⟨W, hW⟩ : ∃ W, W = sortS (uni ws) := ⟨_, rfl⟩
  have Wl : W.length ≤ 8 := by
    rw [hW, (sortS_perm _).length_eq]
    have := uni_len ws
    omega
  have Wk : ∀ w ∈ W, w.length ≤ 1000 := fun w m => wsk w (by
    rw [hW] at m
    exact uni_mem.mp ((sortS_perm _).mem_iff.mp m))
  have ssw := fun s => ss_at (ks := ws) (by omega) (s := s)
  rw [← hW] at ssw
  rw [hws] at wc
  have s14 : (mSet 10 (mFn1 fTuple (mFn1 fSortedSet (mComp [24] (iRange1 (mACons (mCall f__law_take (mACons (mVar 1) (mACons (mC (.int 9)) mANil))) mANil)) (tgName 24) mYes e_law_6)))) ⟨[c0, .val (.ref 0), c2, .val (.int z.many), .val (.int z.len), .val (.int z.total), .val (rN (red (pN z.total c) (qN z.many z.total c z.len))), .val (rN (red (pN z.total c) (qN z.many z.total c z.len))), d8, .val (ruD ru), c10, c11, c12, c13, d14, d15, .own (.lst (TR4.map .str)), .val (.int x.1), .val (.int x.2), .own (.dic (WD z rs)), .own (.dic (CD rs ++ zoe)), c21, d22, d23, .none, .none], g7⟩ = .ok .nx ⟨[c0, .val (.ref 0), c2, .val (.int z.many), .val (.int z.len), .val (.int z.total), .val (rN (red (pN z.total c) (qN z.many z.total c z.len))), .val (rN (red (pN z.total c) (qN z.many z.total c z.len))), d8, .val (ruD ru), .val (.tup (W.map .str)), c11, c12, c13, d14, d15, .own (.lst (TR4.map .str)), .val (.int x.1), .val (.int x.2), .own (.dic (WD z rs)), .own (.dic (CD rs ++ zoe)), c21, d22, d23, .none, .none], g8⟩ := by
    have ft := fun s => ft_new (W.map .str) s
    generalize W.map D.str = WS at ssw ft ⊢
    generalize ws.map D.str = WS0 at ssw wc
    generalize ruD ru = RU at wc ⊢
    generalize WD z rs = WW at wc ⊢
    generalize CD rs ++ zoe = CZ at wc ⊢
    simp [-ap_Comp, wc, ssw, ft, as_d]
  have ld := law_due c0 c2 (.val (.int z.many)) (.val (.int z.len)) (.val (.int z.total)) (.val (rN (red (pN z.total c) (qN z.many z.total c z.len)))) (.val (rN (red (pN z.total c) (qN z.many z.total c z.len)))) (d8) c11 c12 c13 (d14) (d15) (.own (.lst (TR4.map .str))) (.val (.int x.1)) (.val (.int x.2)) (.own (.dic (WD z rs))) (.own (.dic (CD rs ++ zoe))) c21 (d22) (d23) ru rok2 W (by omega) Wk g8
  have wt2 := wish_terms_spec ru rok2 W (by omega) Wk g8
  have fl2 := List.length_filterMap_le (termO ru) W
  obtain ⟨DU, hDU⟩ : ∃ DU, DU = sortS (uni (W.filterMap (termO ru))) := ⟨_, rfl⟩
  have DUl : DU.length ≤ 8 := by
    rw [hDU, (sortS_perm _).length_eq]
    have := uni_len (W.filterMap (termO ru))
    omega
  have ssd := fun s => ss_at (ks := W.filterMap (termO ru)) (by omega) (s := s)
  rw [← hDU] at ssd wt2
  have s15 : (mSet 6 (mFn1 fSortedSet (mComp [25] (iSeq (mVar 10)) (tgName 25) c_law_4 e_law_5))) ⟨[c0, .val (.ref 0), c2, .val (.int z.many), .val (.int z.len), .val (.int z.total), .val (rN (red (pN z.total c) (qN z.many z.total c z.len))), .val (rN (red (pN z.total c) (qN z.many z.total c z.len))), d8, .val (ruD ru), .val (.tup (W.map .str)), c11, c12, c13, d14, d15, .own (.lst (TR4.map .str)), .val (.int x.1), .val (.int x.2), .own (.dic (WD z rs)), .own (.dic (CD rs ++ zoe)), c21, d22, d23, .none, .none], g8⟩ = .ok .nx ⟨[c0, .val (.ref 0), c2, .val (.int z.many), .val (.int z.len), .val (.int z.total), .own (.lst (DU.map .str)), .val (rN (red (pN z.total c) (qN z.many z.total c z.len))), d8, .val (ruD ru), .val (.tup (W.map .str)), c11, c12, c13, d14, d15, .own (.lst (TR4.map .str)), .val (.int x.1), .val (.int x.2), .own (.dic (WD z rs)), .own (.dic (CD rs ++ zoe)), c21, d22, d23, .none, .none], g8⟩ := by
    generalize DU.map D.str = DD at ssd ⊢
    generalize (W.filterMap (termO ru)).map D.str = FM at ssd ld
    generalize W.map D.str = WS at ld ⊢
    generalize ruD ru = RU at ld ⊢
    generalize WD z rs = WW at ld ⊢
    generalize CD rs ++ zoe = CZ at ld ⊢
    simp [-ap_Comp, ld, ssd, as_new]
  have sm3 := same_refl g8 6 (.tup (DU.map .str)) (.tup _ _ (by rw [List.length_map]; omega) (pl_strs 4 DU))
  have s16 : (mIfS (mNotT (mTru (mCall (f__law_same 6) (mACons (mCall f_wish_terms (mACons (mVar 9) (mACons (mVar 10) mANil))) (mACons (mFn1 fTuple (mVar 6)) mANil))))) (mRet (mC (.bl false))) mNx) ⟨[c0, .val (.ref 0), c2, .val (.int z.many), .val (.int z.len), .val (.int z.total), .own (.lst (DU.map .str)), .val (rN (red (pN z.total c) (qN z.many z.total c z.len))), d8, .val (ruD ru), .val (.tup (W.map .str)), c11, c12, c13, d14, d15, .own (.lst (TR4.map .str)), .val (.int x.1), .val (.int x.2), .own (.dic (WD z rs)), .own (.dic (CD rs ++ zoe)), c21, d22, d23, .none, .none], g8⟩ = .ok .nx ⟨[c0, .val (.ref 0), c2, .val (.int z.many), .val (.int z.len), .val (.int z.total), .own (.lst (DU.map .str)), .val (rN (red (pN z.total c) (qN z.many z.total c z.len))), d8, .val (ruD ru), .val (.tup (W.map .str)), c11, c12, c13, d14, d15, .own (.lst (TR4.map .str)), .val (.int x.1), .val (.int x.2), .own (.dic (WD z rs)), .own (.dic (CD rs ++ zoe)), c21, d22, d23, .none, .none], g8⟩ := by
    have ft : ∀ s, asLst s (.at 6) = some (DU.map .str) → fTuple s (.at 6) = .ok (.d (.tup (DU.map .str))) s := fun s h => by
      unfold fTuple asItems
      simp [h, asTup]
    generalize DU.map D.str = DD at ft sm3 wt2 ⊢
    generalize W.map D.str = WS at wt2 ⊢
    generalize ruD ru = RU at wt2 ⊢
    generalize WD z rs = WW
    generalize CD rs ++ zoe = CZ
    simp [wt2, ft, asLst, sm3, asD, truthD]
  have s17 : (mSet 11 (mTup (mACons (mC (.str "a")) (mACons (mC (.str "b")) (mACons (mC (.str "c")) (mACons (mC (.str "d")) (mACons (mC (.str "e")) (mACons (mC (.str "f")) (mACons (mC (.str "g")) (mACons (mC (.str "h")) mANil)))))))))) ⟨[c0, .val (.ref 0), c2, .val (.int z.many), .val (.int z.len), .val (.int z.total), .own (.lst (DU.map .str)), .val (rN (red (pN z.total c) (qN z.many z.total c z.len))), d8, .val (ruD ru), .val (.tup (W.map .str)), c11, c12, c13, d14, d15, .own (.lst (TR4.map .str)), .val (.int x.1), .val (.int x.2), .own (.dic (WD z rs)), .own (.dic (CD rs ++ zoe)), c21, d22, d23, .none, .none], g8⟩ = .ok .nx ⟨[c0, .val (.ref 0), c2, .val (.int z.many), .val (.int z.len), .val (.int z.total), .own (.lst (DU.map .str)), .val (rN (red (pN z.total c) (qN z.many z.total c z.len))), d8, .val (ruD ru), .val (.tup (W.map .str)), .val (.tup E8), c12, c13, d14, d15, .own (.lst (TR4.map .str)), .val (.int x.1), .val (.int x.2), .own (.dic (WD z rs)), .own (.dic (CD rs ++ zoe)), c21, d22, d23, .none, .none], g8⟩ := by
    have sz8 : 8 ≤ sizeLine := szN _ (by omega)
    unfold E8
    simp [sz8, as_d]
  have s18 : (mSet 12 (mLst (mACons (mVar 10) (mACons (mBin opRev (mVar 10) (mFn1 fNeg (mC (.int 1)))) (mACons (mBin opAdd (mVar 10) (mSlice (mVar 10) (mPart (mFn1 fNeg (mC (.int 1)))) mNoPart)) (mACons (mVar 11) (mACons (mBin opAdd (mVar 11) (mTup (mACons (mC (.str "i")) mANil))) (mACons (mTup (mACons (mC (.str "A")) mANil)) (mACons (mTup (mACons (mC (.str "")) mANil)) (mACons (mTup (mACons (mC (.str "a b")) mANil)) (mACons (mTup (mACons (mBin opMul (mC (.str "a")) (mC (.int 20))) mANil)) (mACons (mTup (mACons (mBin opMul (mC (.str "a")) (mC (.int 21))) mANil)) (mACons (mTup (mACons (mC (.int 1)) mANil)) (mACons (mC .non) (mACons (mC (.str "a")) mANil))))))))))))))) ⟨[c0, .val (.ref 0), c2, .val (.int z.many), .val (.int z.len), .val (.int z.total), .own (.lst (DU.map .str)), .val (rN (red (pN z.total c) (qN z.many z.total c z.len))), d8, .val (ruD ru), .val (.tup (W.map .str)), .val (.tup E8), c12, c13, d14, d15, .own (.lst (TR4.map .str)), .val (.int x.1), .val (.int x.2), .own (.dic (WD z rs)), .own (.dic (CD rs ++ zoe)), c21, d22, d23, .none, .none], g8⟩ = .ok .nx ⟨[c0, .val (.ref 0), c2, .val (.int z.many), .val (.int z.len), .val (.int z.total), .own (.lst (DU.map .str)), .val (rN (red (pN z.total c) (qN z.many z.total c z.len))), d8, .val (ruD ru), .val (.tup (W.map .str)), .val (.tup E8), .own (.lst (wv W)), c13, d14, d15, .own (.lst (TR4.map .str)), .val (.int x.1), .val (.int x.2), .own (.dic (WD z rs)), .own (.dic (CD rs ++ zoe)), c21, d22, d23, .none, .none], g8⟩ := by
    have sz13 : 13 ≤ sizeLine := szN _ (by omega)
    have c2 := cut_len (W.map D.str) (some (-1)) none
    have ng : ∀ s, fNeg s (.d (.int 1)) = .ok (.d (.int (-1))) s := fun s => rfl
    have lw : (W.map D.str).length ≤ 8 := by rw [List.length_map]; exact Wl
    have a1 := addT (W.map D.str) (cut (W.map D.str) (some (-1)) none) (by omega) (by omega)
    have a2 := addT E8 [.str "i"] (by simp [E8]) (by simp)
    have rv : ∀ s, opRev s (.d (.tup (W.map .str))) (.d (.int (-1))) = .ok (.d (.tup (W.map D.str).reverse)) s := fun s => rfl
    have sl : ∀ lo hi s, opSl lo hi s (.d (.tup (W.map .str))) = .ok (.d (.tup (cut (W.map D.str) lo hi))) s := fun lo hi s => rfl
    have mu1 : ∀ s, opMul s (.d (.str "a")) (.d (.int 20)) = .ok (.d (.str (repS "a" 20))) s := fun s => rfl
    have mu2 : ∀ s, opMul s (.d (.str "a")) (.d (.int 21)) = .ok (.d (.str (repS "a" 21))) s := fun s => rfl
    unfold wv
    generalize W.map D.str = WS at *
    generalize E8 = E8' at *
    generalize ruD ru = RU
    generalize WD z rs = WW
    generalize CD rs ++ zoe = CZ
    generalize repS "a" 20 = R20 at *
    generalize repS "a" 21 = R21 at *
    simp [-List.map_reverse, sz13, ng, rv, asInt, sl, a1, a2, mu1, mu2, as_new]
  -- spoilt ones
  have rg3 : rng1 3 = some (rangeD 0 3) := rng1_ok (by omega) (by omega)
  obtain ⟨ys2, g9, wcs, B9, ay2⟩ := comp_inv (v := 24) (e := e_law_1) (env := [c0, .val (.ref 0), c2, .val (.int z.many), .val (.int z.len), .val (.int z.total), .own (.lst (DU.map .str)), .val (rN (red (pN z.total c) (qN z.many z.total c z.len))), d8, .val (ruD ru), .val (.tup (W.map .str)), .val (.tup E8), .own (.lst (wv W)), c13, d14, d15, .own (.lst (TR4.map .str)), .val (.int x.1), .val (.int x.2), .own (.dic (WD z rs)), .own (.dic (CD rs ++ zoe)), c21, d22, d23, .none, .none]) (gl := g8) (P := Tp) (R := fun _ y => Ok2 y) (it := iRange1 (mACons (mC (.int 3)) mANil)) (s0 := ⟨[c0, .val (.ref 0), c2, .val (.int z.many), .val (.int z.len), .val (.int z.total), .own (.lst (DU.map .str)), .val (rN (red (pN z.total c) (qN z.many z.total c z.len))), d8, .val (ruD ru), .val (.tup (W.map .str)), .val (.tup E8), .own (.lst (wv W)), c13, d14, d15, .own (.lst (TR4.map .str)), .val (.int x.1), .val (.int x.2), .own (.dic (WD z rs)), .own (.dic (CD rs ++ zoe)), c21, d22, d23, .none, .none], g8⟩) (ds := rangeD 0 3) (by
      generalize rangeD 0 3 = RD at rg3 ⊢
      simp [rg3]) (by simp) rfl B8 (szN _ (by rw [show (rangeD 0 3).length = 3 by rw [rangeD_map]; simp]; omega)) (fun d m gl hP => by
      obtain ⟨y, gl', sp, B', oy⟩ := sp_tup 2 (W.map .str) (by rw [List.length_map]; omega) (fun x mx => by
        obtain ⟨w, mw, rfl⟩ := List.mem_map.mp mx
        exact ⟨w, rfl, Wk w mw⟩) gl hP
      have sp : f__law_spoilt 4 [.ref 0, .tup (W.map .str)] gl = .ok y gl' := sp
      refine ⟨y, gl', ?_, B', oy⟩
      generalize W.map D.str = WS at sp ⊢
      simp [e_law_1, sp])
  have yl : ys2.length = 3 ∧ ∀ y ∈ ys2, Ok2 y := by
    have key : ∀ {a b : List D}, All2 (fun _ y => Ok2 y) a b → b.length = a.length ∧ ∀ y ∈ b, Ok2 y := fun h => by
      induction h with
      | nil => exact ⟨rfl, fun y m => nomatch m⟩
      | cons r _ ih =>
        refine ⟨by simp [ih.1], fun y m => ?_⟩
        rcases List.mem_cons.mp m with rfl | m
        · exact r
        · exact ih.2 y m
    obtain ⟨k1, k2⟩ := key ay2
    exact ⟨by rw [k1, rangeD_map]; simp, k2⟩
  have okv := wv_ok (W := W) (by omega) Wk
  obtain ⟨d13, d21, wf⟩ := fine_loop c0 c2 (.val (.int z.many)) (.val (.int z.len)) (.val (.int z.total)) (.own (.lst (DU.map .str))) (.val (rN (red (pN z.total c) (qN z.many z.total c z.len)))) (d8) (.val (ruD ru)) (.val (.tup (W.map .str))) (.val (.tup E8)) (.own (.lst (wv W))) (d14) (d15) (.own (.lst (TR4.map .str))) (.val (.int x.1)) (.val (.int x.2)) (.own (.dic (WD z rs))) (.own (.dic (CD rs ++ zoe))) (d22) (d23) (wv W ++ [.tup []] ++ ys2) g9 c13 c21 (fun y my => by
    rcases List.mem_append.mp my with my | my
    · rcases List.mem_append.mp my with my | my
      · exact okv y my
      · rw [List.mem_singleton.mp my]; exact ⟨by simp, fun x m => nomatch m⟩
    · exact yl.2 y my)
  have ad1 : ∀ s, asLst s (.at 12) = some (wv W) → opAdd s (.at 12) (.new (.lst [.tup []])) = .ok (.new (.lst (wv W ++ [.tup []]))) s := fun s h => q_addL h rfl (szN _ (by simp [wv]))
  have ad2 : ∀ s, opAdd s (.d (.lst (wv W ++ [.tup []]))) (.new (.lst ys2)) = .ok (.new (.lst (wv W ++ [.tup []] ++ ys2))) s := fun s => q_addL rfl rfl (szN _ (by rw [List.length_append, yl.1]; simp [wv]))
  have s19 : (mFor (iSeq (mBin opAdd (mBin opAdd (mVar 12) (mLst (mACons (mTup mANil) mANil))) (mComp [24] (iRange1 (mACons (mC (.int 3)) mANil)) (tgName 24) mYes e_law_1))) (tgName 13) l_law_3) ⟨[c0, .val (.ref 0), c2, .val (.int z.many), .val (.int z.len), .val (.int z.total), .own (.lst (DU.map .str)), .val (rN (red (pN z.total c) (qN z.many z.total c z.len))), d8, .val (ruD ru), .val (.tup (W.map .str)), .val (.tup E8), .own (.lst (wv W)), c13, d14, d15, .own (.lst (TR4.map .str)), .val (.int x.1), .val (.int x.2), .own (.dic (WD z rs)), .own (.dic (CD rs ++ zoe)), c21, d22, d23, .none, .none], g8⟩ = .ok .nx ⟨[c0, .val (.ref 0), c2, .val (.int z.many), .val (.int z.len), .val (.int z.total), .own (.lst (DU.map .str)), .val (rN (red (pN z.total c) (qN z.many z.total c z.len))), d8, .val (ruD ru), .val (.tup (W.map .str)), .val (.tup E8), .own (.lst (wv W)), d13, d14, d15, .own (.lst (TR4.map .str)), .val (.int x.1), .val (.int x.2), .own (.dic (WD z rs)), .own (.dic (CD rs ++ zoe)), d21, d22, d23, .none, .none], g9⟩ := by
    generalize wv W ++ [.tup []] ++ ys2 = V3 at *
    generalize wv W ++ [.tup []] = V2 at *
    generalize wv W = V1 at *
    generalize W.map D.str = WS at wcs wf ⊢
    generalize DU.map D.str = DD at wcs wf ⊢
    generalize ruD ru = RU at wcs wf ⊢
    generalize WD z rs = WW at wcs wf ⊢
    generalize CD rs ++ zoe = CZ at wcs wf ⊢
    generalize E8 = E8' at wcs wf ⊢
    simp [-ap_Comp, wcs, ad1, asLst, ad2, wf]
  refine ⟨.val (.int z.many), .val (.int z.len), .val (.int z.total), .own (.lst (DU.map .str)), .val (rN (red (pN z.total c) (qN z.many z.total c z.len))), d8, .val (ruD ru), .val (.tup (W.map .str)), .val (.tup E8), .own (.lst (wv W)), d13, d14, d15, .own (.lst (TR4.map .str)), .val (.int x.1), .val (.int x.2), .own (.dic (WD z rs)), .own (.dic (CD rs ++ zoe)), d21, d22, d23, g9, ?_, B9⟩
  unfold l_law_8
  rw [seq_nx s1, seq_nx s2, seq_nx s3, seq_nx s4, seq_nx s5, seq_nx s6, seq_nx s7, seq_nx s8, seq_nx s9, seq_nx s10, seq_nx s11, seq_nx s12, seq_nx s13, seq_nx s14, seq_nx s15, seq_nx s16, seq_nx s17, seq_nx s18]
  exact s19
end K11
/-! # k11: the law -/
namespace K11
open PySem PySem.Spec PyProof.Rows L2 MI
theorem turns_loop (c0 : Slot) : ∀ (L : List D) (gl : List MObj) (c2 c3 c4 c5 c6 c7 c8 c9 c10 c11 c12 c13 c14 c15 c16 c17 c18 c19 c20 c21 c22 c23 : Slot), Tp gl →
    ∃ d2 d3 d4 d5 d6 d7 d8 d9 d10 d11 d12 d13 d14 d15 d16 d17 d18 d19 d20 d21 d22 d23 gl', forGo (tgName 2) l_law_8 L ⟨[c0, .val (.ref 0), c2, c3, c4, c5, c6, c7, c8, c9, c10, c11, c12, c13, c14, c15, c16, c17, c18, c19, c20, c21, c22, c23, .none, .none], gl⟩ = .ok .nx ⟨[c0, .val (.ref 0), d2, d3, d4, d5, d6, d7, d8, d9, d10, d11, d12, d13, d14, d15, d16, d17, d18, d19, d20, d21, d22, d23, .none, .none], gl'⟩ ∧ Tp gl'
  | [], gl, c2, c3, c4, c5, c6, c7, c8, c9, c10, c11, c12, c13, c14, c15, c16, c17, c18, c19, c20, c21, c22, c23, hB => ⟨c2, c3, c4, c5, c6, c7, c8, c9, c10, c11, c12, c13, c14, c15, c16, c17, c18, c19, c20, c21, c22, c23, gl, rfl, hB⟩
  | d :: L, gl, c2, c3, c4, c5, c6, c7, c8, c9, c10, c11, c12, c13, c14, c15, c16, c17, c18, c19, c20, c21, c22, c23, hB => by
    obtain ⟨g3, g4, g5, g6, g7, g8, g9, g10, g11, g12, g13, g14, g15, g16, g17, g18, g19, g20, g21, g22, g23, gl1, st, B1⟩ := turn gl hB c0 (.val d) c3 c4 c5 c6 c7 c8 c9 c10 c11 c12 c13 c14 c15 c16 c17 c18 c19 c20 c21 c22 c23
    obtain ⟨h2, h3, h4, h5, h6, h7, h8, h9, h10, h11, h12, h13, h14, h15, h16, h17, h18, h19, h20, h21, h22, h23, gl', w, B'⟩ := turns_loop c0 L gl1 (.val d) g3 g4 g5 g6 g7 g8 g9 g10 g11 g12 g13 g14 g15 g16 g17 g18 g19 g20 g21 g22 g23 B1
    refine ⟨h2, h3, h4, h5, h6, h7, h8, h9, h10, h11, h12, h13, h14, h15, h16, h17, h18, h19, h20, h21, h22, h23, gl', ?_, B'⟩
    exact (fc_ok (by rw [ap_tgName, as_d (by simp)]; rfl) st).trans w
theorem plain : ∀ ns : List Int, ns.length ≤ 63 → ∃ gl, f_law [.scr (ns.map D.int)] [] = .ok (.bl true) gl := by
  intro ns hns
  obtain ⟨gl, hb, hB⟩ := tape_spec ns hns
  obtain ⟨h2, h3, h4, h5, h6, h7, h8, h9, h10, h11, h12, h13, h14, h15, h16, h17, h18, h19, h20, h21, h22, h23, gl1, w, B1⟩ := turns_loop (.val (.scr (ns.map D.int))) (rangeD 0 4) gl .none .none .none .none .none .none .none .none .none .none .none .none .none .none .none .none .none .none .none .none .none .none hB
  have hr : rng1 4 = some (rangeD 0 4) := rng1_ok (by omega) (by omega)
  -- the known ones
  have wt := weight_spec 9 4 (by omega) gl
  have r1 : red (9 + 1) (4 + 1) = (2, 1) := by decide
  rw [r1] at wt
  have p1 := part_spec 2 10 1 5 (by omega) (by omega) (by omega) (few_64 (by decide)) gl
  have r2 : red (pN 10 1) (qN 2 10 1 5) = (1, 1) := by decide
  rw [r2] at p1
  have p2 := part_zero 3 0 0 gl
  have ts := times_spec (2, 1) (1, 1) (by omega) (by omega) (by omega) (by omega) (few_64 (by decide)) gl
  have r3 : red ((2, 1) : Nat × Nat).1 ((2, 1) : Nat × Nat).2 = (2, 1) := by decide
  have ts : f_times_of [rN (2, 1), rN (1, 1)] gl = .ok (rN (2, 1)) gl := by
    rw [ts]
    have : red (2 * 1) (1 * 1) = (2, 1) := by decide
    show CRes.ok (rN (red (2 * 1) (1 * 1))) gl = _
    rw [this]
  have ss := sum_spec (0, 1) (2, 1) (by omega) (by omega) (by omega) (by omega) (few_64 (by decide)) gl
  have ss : f_sum_of [rN (0, 1), rN (2, 1)] gl = .ok (rN (2, 1)) gl := by
    rw [ss]
    have : red (0 * 1 + 2 * 1) (1 * 1) = (2, 1) := by decide
    show CRes.ok (rN (red (0 * 1 + 2 * 1) (1 * 1))) gl = _
    rw [this]
  have adjCD : adj ["cat", "dog"] = true := by decide +kernel
  have srt : sortS ["cat", "dog"] = (["cat", "dog"] : List Str) := (pw_leS ((adj_pw adjCD).imp fun q => le_of q) (List.Perm.refl _)).symm
  have so : ∀ s, fSorted s (.d (.dic [(.inr "cat", rN (2, 1)), (.inr "dog", rN (1, 2))])) = .ok (.new (.lst [.str "cat", .str "dog"])) s := fun s => by
    have e : fSorted s (.d (.dic [(.inr "cat", rN (2, 1)), (.inr "dog", rN (1, 2))])) = .ok (.new (.lst ((sortS ["cat", "dog"]).map .str))) s := rfl
    rw [e, srt]
    rfl
  have kc : keyOf (.str "cat") = some (.inr "cat") := rfl
  have kd : keyOf (.str "dog") = some (.inr "dog") := rfl
  have v1 : dval [(.inr "cat", rN (2, 1)), (.inr "dog", rN (1, 2))] (.inr "cat") = some (rN (2, 1)) := rfl
  have v2 : dval [(.inr "cat", .int 1), (.inr "ran", .int 3)] (.inr "cat") = some (.int 1) := rfl
  have v3 : dval [(.inr "cat", .int 1), (.inr "ran", .int 3)] (.inr "dog") = none := rfl
  have p1' : f_part_of [.int 2, .int 10, .int 1, .int 5] gl = .ok (rN (1, 1)) gl := p1
  have lp : ∀ c6 : Slot, ∃ d6, forGo (tgName 6) l_score_of_1 [.str "cat", .str "dog"] ⟨[.val (.int 2), .val (.int 10), .val (.dic [(.inr "cat", rN (2, 1)), (.inr "dog", rN (1, 2))]), .val (.dic [(.inr "cat", .int 1), (.inr "ran", .int 3)]), .val (.int 5), .val (rN (0, 1)), c6], gl⟩ = .ok .nx ⟨[.val (.int 2), .val (.int 10), .val (.dic [(.inr "cat", rN (2, 1)), (.inr "dog", rN (1, 2))]), .val (.dic [(.inr "cat", .int 1), (.inr "ran", .int 3)]), .val (.int 5), .val (rN (2, 1)), d6], gl⟩ := fun c6 => by
    refine ⟨.val (.str "dog"), ?_⟩
    refine (fc_ok (s1 := ⟨[.val (.int 2), .val (.int 10), .val (.dic [(.inr "cat", rN (2, 1)), (.inr "dog", rN (1, 2))]), .val (.dic [(.inr "cat", .int 1), (.inr "ran", .int 3)]), .val (.int 5), .val (rN (0, 1)), .val (.str "cat")], gl⟩) (s2 := ⟨[.val (.int 2), .val (.int 10), .val (.dic [(.inr "cat", rN (2, 1)), (.inr "dog", rN (1, 2))]), .val (.dic [(.inr "cat", .int 1), (.inr "ran", .int 3)]), .val (.int 5), .val (rN (2, 1)), .val (.str "cat")], gl⟩) (by rw [ap_tgName, as_d (by simp)]; rfl) ?_).trans ?_
    · generalize rN (2, 1) = R21 at *
      generalize rN (1, 2) = R12 at *
      generalize rN (0, 1) = R01 at *
      generalize rN (1, 1) = R11 at *
      simp [l_score_of_1, asDic, kc, v1, v2, p1', ts, ss, as_d]
    · refine (fc_ok (s1 := ⟨[.val (.int 2), .val (.int 10), .val (.dic [(.inr "cat", rN (2, 1)), (.inr "dog", rN (1, 2))]), .val (.dic [(.inr "cat", .int 1), (.inr "ran", .int 3)]), .val (.int 5), .val (rN (2, 1)), .val (.str "dog")], gl⟩) (s2 := ⟨[.val (.int 2), .val (.int 10), .val (.dic [(.inr "cat", rN (2, 1)), (.inr "dog", rN (1, 2))]), .val (.dic [(.inr "cat", .int 1), (.inr "ran", .int 3)]), .val (.int 5), .val (rN (2, 1)), .val (.str "dog")], gl⟩) (by rw [ap_tgName, as_d (by simp)]; rfl) ?_).trans ?_
      · generalize rN (2, 1) = R21 at *
        generalize rN (1, 2) = R12 at *
        simp [l_score_of_1, asDic, kd, v3]
      · rfl
  obtain ⟨d6, lp⟩ := lp .none
  have sc : f_score_of [.int 2, .int 10, .dic [(.inr "cat", rN (2, 1)), (.inr "dog", rN (1, 2))], .dic [(.inr "cat", .int 1), (.inr "ran", .int 3)], .int 5] gl = .ok (rN (2, 1)) gl := by
    have w0 : rN (0, 1) = .tup [.int 0, .int 1] := rfl
    rw [w0] at lp
    generalize rN (2, 1) = R21 at *
    generalize rN (1, 2) = R12 at *
    simp [f_score_of, mDef, List.replicate, b_score_of, as_d, so, lp]
  have wk := wish_terms_spec ⟨["the"], [⟨"s", "", 2⟩]⟩ (fun e m => by rw [List.mem_singleton.mp m]; exact ⟨by decide, by decide⟩) ["cat", "cats", "the"] (by simp) (by decide) gl
  have u1 : uni ((["cat", "cats", "the"] : List Str).filterMap (termO ⟨["the"], [⟨"s", "", 2⟩]⟩)) = (["cat"] : List Str) := by decide +kernel
  have s1 : sortS ["cat"] = (["cat"] : List Str) := (pw_leS (List.pairwise_singleton _ _) (List.Perm.refl _)).symm
  rw [u1, s1] at wk
  have wk : f_wish_terms [.tup [.tup [.str "the"], .tup [.tup [.str "s", .str "", .int 2]]], .tup [.str "cat", .str "cats", .str "the"]] gl = .ok (.tup [.str "cat"]) gl := wk
  have q1 : ∀ s, opEq true s (.d (rN (2, 1))) (.d (.tup [.int 2, .int 1])) = .ok (.d (.bl false)) s := fun s => rfl
  have q2 : ∀ s, opEq true s (.d (rN (1, 1))) (.d (.tup [.int 1, .int 1])) = .ok (.d (.bl false)) s := fun s => rfl
  have q3 : ∀ s, opEq true s (.d (rN (0, 1))) (.d (.tup [.int 0, .int 1])) = .ok (.d (.bl false)) s := fun s => rfl
  have q4 : ∀ s, opEq true s (.d (.tup [.str "cat"])) (.d (.tup [.str "cat"])) = .ok (.d (.bl false)) s := fun s => rfl
  have k1 : keysOf [(.str "cat", .tup [.int 2, .int 1]), (.str "dog", .tup [.int 1, .int 2])] = some [(.inr "cat", .tup [.int 2, .int 1]), (.inr "dog", .tup [.int 1, .int 2])] := rfl
  have k2 : keysOf [(.str "cat", .int 1), (.str "ran", .int 3)] = some [(.inr "cat", .int 1), (.inr "ran", .int 3)] := rfl
  have g1 : mergeD [] [(.inr "cat", .tup [.int 2, .int 1]), (.inr "dog", .tup [.int 1, .int 2])] = [(.inr "cat", .tup [.int 2, .int 1]), (.inr "dog", .tup [.int 1, .int 2])] := rfl
  have g2 : mergeD [] [(.inr "cat", .int 1), (.inr "ran", .int 3)] = [(.inr "cat", .int 1), (.inr "ran", .int 3)] := rfl
  have sc : f_score_of [.int 2, .int 10, .dic [(.inr "cat", .tup [.int 2, .int 1]), (.inr "dog", .tup [.int 1, .int 2])], .dic [(.inr "cat", .int 1), (.inr "ran", .int 3)], .int 5] gl = .ok (rN (2, 1)) gl := sc
  have wt : f_weight_of [.int 9, .int 4] gl = .ok (rN (2, 1)) gl := wt
  have p2 : f_part_of [.int 3, .int 0, .int 0, .int 0] gl = .ok (rN (0, 1)) gl := p2
  refine ⟨gl1, ?_⟩
  generalize rN (2, 1) = R21 at *
  generalize rN (1, 1) = R11 at *
  generalize rN (0, 1) = R01 at *
  simp [f_law, mDef, List.replicate, b_law, hb, as_d, wt, q1, p1', q2, p2, q3, ap_Disp, ap_PCons, ap_PNil, k1, k2, g1, g2, sc, wk, q4, hr, w]
end K11
namespace K11
open PySem PySem.Spec PyProof.Rows L2 MI
def hdFa : List He.Fa := [.free "isinstance", .free "bool", .free "int", .glo "is_whole", .free "len", .free "range", .free "all", .glo "is_ascending", .free "abs", .glo "divisor_of", .glo "ratio_of", .free "tuple", .glo "is_ratio", .glo "sum_of", .glo "times_of", .glo "is_below", .str "DIGITS" "0123456789", .str "SMALL" "abcdefghijklmnopqrstuvwxyz", .glo "is_word_sign", .int "LONGEST_WORD" 20, .free "str", .glo "is_word", .glo "turned_word", .glo "term_of", .int "MOST_WISHES" 8, .glo "are_wishes", .free "sorted", .free "set", .glo "wish_terms", .glo "weight_of", .glo "part_of", .glo "score_of", .glo "_law_mix", .free "list", .glo "_law_tape", .glo "_law_take", .glo "_law_same", .glo "_law_rules", .glo "_law_word", .glo "_law_term", .glo "_law_spoilt", .glo "_law_low", .glo "_law_is_word", .free "dict", .free "min", .glo "law"]
def hdFn : List He.DefD := [⟨("is_whole", none), "is_whole", "is_whole", defArgs (tp 3), defBody (tp 3), defScope (tp 3), [], []⟩, ⟨("is_ascending", none), "is_ascending", "is_ascending", defArgs (tp 4), defBody (tp 4), defScope (tp 4), [], []⟩, ⟨("divisor_of", none), "divisor_of", "divisor_of", defArgs (tp 6), defBody (tp 6), defScope (tp 6), [], []⟩, ⟨("ratio_of", none), "ratio_of", "ratio_of", defArgs (tp 7), defBody (tp 7), defScope (tp 7), [], []⟩, ⟨("is_ratio", none), "is_ratio", "is_ratio", defArgs (tp 8), defBody (tp 8), defScope (tp 8), [], []⟩, ⟨("sum_of", none), "sum_of", "sum_of", defArgs (tp 9), defBody (tp 9), defScope (tp 9), [], []⟩, ⟨("times_of", none), "times_of", "times_of", defArgs (tp 10), defBody (tp 10), defScope (tp 10), [], []⟩, ⟨("is_below", none), "is_below", "is_below", defArgs (tp 11), defBody (tp 11), defScope (tp 11), [], []⟩, ⟨("is_word_sign", none), "is_word_sign", "is_word_sign", defArgs (tp 14), defBody (tp 14), defScope (tp 14), [], []⟩, ⟨("is_word", none), "is_word", "is_word", defArgs (tp 15), defBody (tp 15), defScope (tp 15), [], []⟩, ⟨("turned_word", none), "turned_word", "turned_word", defArgs (tp 17), defBody (tp 17), defScope (tp 17), [], []⟩, ⟨("term_of", none), "term_of", "term_of", defArgs (tp 18), defBody (tp 18), defScope (tp 18), [], []⟩, ⟨("are_wishes", none), "are_wishes", "are_wishes", defArgs (tp 21), defBody (tp 21), defScope (tp 21), [], []⟩, ⟨("wish_terms", none), "wish_terms", "wish_terms", defArgs (tp 22), defBody (tp 22), defScope (tp 22), [], []⟩, ⟨("weight_of", none), "weight_of", "weight_of", defArgs (tp 23), defBody (tp 23), defScope (tp 23), [], []⟩, ⟨("part_of", none), "part_of", "part_of", defArgs (tp 24), defBody (tp 24), defScope (tp 24), [], []⟩, ⟨("score_of", none), "score_of", "score_of", defArgs (tp 25), defBody (tp 25), defScope (tp 25), [], []⟩, ⟨("_law_mix", none), "_law_mix", "_law_mix", defArgs (tp 27), defBody (tp 27), defScope (tp 27), [], []⟩, ⟨("_law_tape", none), "_law_tape", "_law_tape", defArgs (tp 28), defBody (tp 28), defScope (tp 28), [], []⟩, ⟨("_law_take", none), "_law_take", "_law_take", defArgs (tp 29), defBody (tp 29), defScope (tp 29), [], []⟩, ⟨("_law_same", none), "_law_same", "_law_same", defArgs (tp 30), defBody (tp 30), defScope (tp 30), [], []⟩, ⟨("_law_rules", none), "_law_rules", "_law_rules", defArgs (tp 31), defBody (tp 31), defScope (tp 31), [], []⟩, ⟨("_law_word", none), "_law_word", "_law_word", defArgs (tp 32), defBody (tp 32), defScope (tp 32), [], []⟩, ⟨("_law_term", none), "_law_term", "_law_term", defArgs (tp 33), defBody (tp 33), defScope (tp 33), [], []⟩, ⟨("_law_spoilt", none), "_law_spoilt", "_law_spoilt", defArgs (tp 34), defBody (tp 34), defScope (tp 34), [], []⟩, ⟨("_law_low", none), "_law_low", "_law_low", defArgs (tp 35), defBody (tp 35), defScope (tp 35), [], []⟩, ⟨("_law_is_word", none), "_law_is_word", "_law_is_word", defArgs (tp 36), defBody (tp 36), defScope (tp 36), [], []⟩, ⟨("law", none), "law", "law", defArgs (tp 37), defBody (tp 37), defScope (tp 37), [], []⟩]
def hdIn : List InD := []
def hdTu : List (Str × List He.Dv) := []
def hd : HdX := ⟨4, PySem.Challenge.pw_postingstold_k11_whole_scores.main.file, hdFa, hdFn, hdIn, hdTu⟩
def loose0 : List Str := ["SMALL", "DIGITS", "LONGEST_WORD", "MOST_WISHES", "is_whole", "is_ascending", "divisor_of", "ratio_of", "is_ratio", "sum_of", "times_of", "is_below", "is_word_sign", "is_word", "turned_word", "term_of", "are_wishes", "wish_terms", "weight_of", "part_of", "score_of", "_law_mix", "_law_tape", "_law_take", "_law_same", "_law_rules", "_law_word", "_law_term", "_law_spoilt", "_law_low"]
def loose1 : List Str := ["_law_is_word"]
def loose : List Str := loose0 ++ loose1
abbrev R : PySem.W.OpenRow := PySem.W.OpenLaw.row PySem.Challenge.rw_postingstold_k11_whole_scores
theorem run (w : World) : HandSHeadRun.RunEq R (PySem.W.view R.prog [37]) hd.hook hd.ob 4000 loose w := by
  intro os
  kernel_rfl
theorem facts {K : PySem.W.Frag} {h : Heap} {mg : Str → Option Value} (X : K.In h) (G : h.Ns mainGlobals mg) (c : hd.says K) : Fx PySem.Challenge.pw_postingstold_k11_whole_scores K mg where
  g_isinstance := c.free X G 0
  g_bool := c.free X G 1
  g_int := c.free X G 2
  d_is_whole := c.def_ X G 0 3
  g_len := c.free X G 4
  g_range := c.free X G 5
  g_all := c.free X G 6
  d_is_ascending := c.def_ X G 1 7
  g_abs := c.free X G 8
  d_divisor_of := c.def_ X G 2 9
  d_ratio_of := c.def_ X G 3 10
  g_tuple := c.free X G 11
  d_is_ratio := c.def_ X G 4 12
  d_sum_of := c.def_ X G 5 13
  d_times_of := c.def_ X G 6 14
  d_is_below := c.def_ X G 7 15
  v_DIGITS := c.gstr X G 16
  v_SMALL := c.gstr X G 17
  d_is_word_sign := c.def_ X G 8 18
  v_LONGEST_WORD := c.gint X G 19
  g_str := c.free X G 20
  d_is_word := c.def_ X G 9 21
  d_turned_word := c.def_ X G 10 22
  d_term_of := c.def_ X G 11 23
  v_MOST_WISHES := c.gint X G 24
  d_are_wishes := c.def_ X G 12 25
  g_sorted := c.free X G 26
  g_set := c.free X G 27
  d_wish_terms := c.def_ X G 13 28
  d_weight_of := c.def_ X G 14 29
  d_part_of := c.def_ X G 15 30
  d_score_of := c.def_ X G 16 31
  d__law_mix := c.def_ X G 17 32
  g_list := c.free X G 33
  d__law_tape := c.def_ X G 18 34
  d__law_take := c.def_ X G 19 35
  d__law_same := c.def_ X G 20 36
  d__law_rules := c.def_ X G 21 37
  d__law_word := c.def_ X G 22 38
  d__law_term := c.def_ X G 23 39
  d__law_spoilt := c.def_ X G 24 40
  d__law_low := c.def_ X G 25 41
  d__law_is_word := c.def_ X G 26 42
  g_dict := c.free X G 43
  g_min := c.free X G 44
  d_law := c.def_ X G 27 45
end K11
open PySem PySem.W PySem.Calls PyProof.Rows MI in
theorem PySem.Challenge.cw_postingstold_k11_whole_scores_holds : PySem.Challenge.rw_postingstold_k11_whole_scores.Holds := by
  w_on; o_law
  refine HandSHeadRun.head_any (r := K11.R) (q := view K11.R.prog [37]) (H := K11.hd.hook) (ob := K11.hd.ob) (M := 4000) (loose := K11.loose) (d := HandSHeadRun.topDef K11.R.prog 37) (kwd := []) K11.hd.ob_eq
    (by kernel_rfl) (fun s => by kernel_rfl) K11.run (by kernel_rfl) (by kernel_rfl) (by kernel_rfl) (by rfl) (by first | assumption | decide +kernel) (by decide +kernel) ⟨rfl, rfl, rfl, rfl, rfl, by decide +kernel⟩ ?hw ?hc
  case hw => w_witness2
  case hc =>
    refine L2.walk_ofE (l := PySem.Challenge.rw_postingstold_k11_whole_scores) (n := 63) (k := 8) (x := "script") (CX := CXw PySem.Challenge.pw_postingstold_k11_whole_scores) rfl (by decide) (by kernel_rfl) ⟨rfl, by decide, by decide⟩ ?F law_out
    intro w mg fa h Y G hmg0
    obtain ⟨K, KX, c⟩ := Y
    have hmg : mg ("law" : PySem.Str) = some (.ref fa) := by
      have e : (HandSHeadRun.topDef K11.R.prog 37).name = ("law" : PySem.Str) := by kernel_rfl
      rw [← e]
      exact hmg0
    exact law_end KX hmg (fun base => K11.F_law (K11.facts KX G c)) K11.plain
