import PyProof.Rows.All
import Wide.All
import OpenK.AllK
import Wide.FinOn
import HandS.ForMost
import HandS.ForExc
import HandS.Head0
import HandS.Head1
import HandS.Head2
import HandS.HeadEnd
import HandS.HeadHook1
import HandS.HeadHook2
import HandS.TupAny
import HandS.Wide
import HandS.TupLe
import HandS.Deep
import PyProof.NeData
import HandS.Defaults
import HandS.ExcOwn
import HandS.Style
import HandS.IsInst
import HandS.Flt
import HandS.More
import HandS.Replace
import HandS.TupMul
import HandS.Small
import PyProof.StrOps2
import HandS.ExcInit
import HandS.ExcField
import KE.KExcSuper
import HandS.Text
import PyProof.Rows.StrFin3
import PySem.Challenge.RW_postingstold_k18_whole_numbers_and_value
set_option Elab.async false
set_option linter.all false
set_option maxRecDepth 100000
set_option maxHeartbeats 4000000
/-! # The mirror layer: data trees over the hand layer's heap -/
namespace MI
open PySem L2

/-- data: what a value is, lists and dicts in it never change any more; ref: an object of the shared store; scr: the law's own script -/
inductive D where
  | non | bl (b : Bool) | int (i : Int) | str (x : Str)
  | tup (xs : List D) | lst (xs : List D) | dic (kvs : List (Key × D)) | ref (n : Nat) | scr (xs : List D)
  deriving Inhabited

/-- an object that may change -/
inductive MObj where
  | lst (xs : List D) | dic (kvs : List (Key × D)) | ins (c : Str) (fs : List (Str × D))
  deriving Inhabited
inductive Slot where
  | none | val (x : D) | own (o : MObj)
  deriving Inhabited
structure S where
  env : List Slot
  gl : List MObj
inductive Loc where
  | sl (i : Nat) | gl (n : Nat)
  deriving DecidableEq
/-- a value of an expression: data; the object that a slot owns; a new object -/
inductive RV where
  | d (x : D) | at (i : Nat) | new (o : MObj)
inductive Res (α : Type) where
  | ok (a : α) (s : S) | exc (c : Str) (p : D) (s : S) | stuck
inductive Out where
  | nx | rt (x : D) | bk | ct

def cellOf (s : S) : Loc → Option MObj
  | .sl i => match s.env[i]? with
    | some (.own o) => some o
    | _ => none
  | .gl n => s.gl[n]?

/-- what stands unchanged for good; what is another one's; where the objects are, how many are shared -/
structure G where
  F : Hp
  P : Addr → Prop
  adr : Loc → Addr
  ng : Nat

mutual
inductive Rep (K : PySem.W.Frag) (g : G) : V → D → Prop
  | non : Rep K g .non .non
  | bl (b : Bool) : Rep K g (.bl b) (.bl b)
  | int (i : Int) : Rep K g (.int i) (.int i)
  | str (x : Str) : Rep K g (.str x) (.str x)
  | tup {a : Addr} {vs : List V} {ds : List D} : SqT K g.F a vs → RepL K g vs ds → Rep K g (.ref a) (.tup ds)
  | lst {a : Addr} {vs : List V} {ds : List D} : g.F a = some (.lst vs) → RepL K g vs ds → Rep K g (.ref a) (.lst ds)
  | dic {a : Addr} {kvs : List (Key × V)} {ds : List (Key × D)} : g.F a = some (.dK kvs) → RepK K g kvs ds → Rep K g (.ref a) (.dic ds)
  | ref (n : Nat) : n < g.ng → Rep K g (.ref (g.adr (.gl n))) (.ref n)
  | scr {a : Addr} {vs : List V} {ds : List D} : SqL K g.F a vs → RepL K g vs ds → Rep K g (.ref a) (.scr ds)
inductive RepL (K : PySem.W.Frag) (g : G) : List V → List D → Prop
  | nil : RepL K g [] []
  | cons {v : V} {vs : List V} {d : D} {ds : List D} : Rep K g v d → RepL K g vs ds → RepL K g (v :: vs) (d :: ds)
inductive RepK (K : PySem.W.Frag) (g : G) : List (Key × V) → List (Key × D) → Prop
  | nil : RepK K g [] []
  | cons {k : Key} {v : V} {vs : List (Key × V)} {d : D} {ds : List (Key × D)} : Rep K g v d → RepK K g vs ds → RepK K g ((k, v) :: vs) ((k, d) :: ds)
end
inductive RepF (K : PySem.W.Frag) (g : G) : List (Str × V) → List (Str × D) → Prop
  | nil : RepF K g [] []
  | cons {k : Str} {v : V} {vs : List (Str × V)} {d : D} {ds : List (Str × D)} : Rep K g v d → RepF K g vs ds → RepF K g ((k, v) :: vs) ((k, d) :: ds)

def Sub (F H : Hp) : Prop := ∀ a o, F a = some o → H a = some o
theorem Sub.refl (F : Hp) : Sub F F := fun _ _ e => e
theorem Sub.trans {F G H : Hp} (a : Sub F G) (b : Sub G H) : Sub F H := fun x o e => b x o (a x o e)
/-- the later ghost -/
structure GLe (g g' : G) : Prop where
  F : Sub g.F g'.F
  ng : g.ng ≤ g'.ng
  adr : ∀ n, n < g.ng → g'.adr (.gl n) = g.adr (.gl n)
theorem GLe.refl (g : G) : GLe g g := ⟨Sub.refl _, Nat.le_refl _, fun _ _ => rfl⟩
theorem GLe.trans {a b c : G} (x : GLe a b) (y : GLe b c) : GLe a c :=
  ⟨x.F.trans y.F, Nat.le_trans x.ng y.ng, fun n h => (y.adr n (Nat.lt_of_lt_of_le h x.ng)).trans (x.adr n h)⟩

theorem rd_mono {F H : Hp} (s : Sub F H) {a : Addr} {u : HO} (r : Rd F a u) : Rd H a u := by
  rcases r with r | ⟨o, r⟩
  · exact .inl (s _ _ r)
  · exact .inr ⟨o, s _ _ r⟩
theorem sqT_mono {K : PySem.W.Frag} {F H : Hp} (s : Sub F H) {a : Addr} {xs : List V} (r : SqT K F a xs) : SqT K H a xs := by
  rcases r with r | r
  · exact .inl (rd_mono s r)
  · exact .inr r
theorem sqL_mono {K : PySem.W.Frag} {F H : Hp} (s : Sub F H) {a : Addr} {xs : List V} (r : SqL K F a xs) : SqL K H a xs := by
  rcases r with r | r
  · exact .inl (rd_mono s r)
  · exact .inr r

section
variable {K : PySem.W.Frag} {g g' : G}
mutual
theorem Rep.mono (l : GLe g g') : ∀ {v : V} {d : D}, Rep K g v d → Rep K g' v d
  | _, _, .non => .non
  | _, _, .bl b => .bl b
  | _, _, .int i => .int i
  | _, _, .str x => .str x
  | _, _, .tup h r => .tup (sqT_mono l.F h) (RepL.mono l r)
  | _, _, .lst h r => .lst (l.F _ _ h) (RepL.mono l r)
  | _, _, .dic h r => .dic (l.F _ _ h) (RepK.mono l r)
  | _, _, .scr h r => .scr (sqL_mono l.F h) (RepL.mono l r)
  | _, _, .ref n h => by rw [← l.adr n h]; exact .ref n (Nat.lt_of_lt_of_le h l.ng)
theorem RepL.mono (l : GLe g g') : ∀ {v : List V} {d : List D}, RepL K g v d → RepL K g' v d
  | _, _, .nil => .nil
  | _, _, .cons a b => .cons (Rep.mono l a) (RepL.mono l b)
theorem RepK.mono (l : GLe g g') : ∀ {v : List (Key × V)} {d : List (Key × D)}, RepK K g v d → RepK K g' v d
  | _, _, .nil => .nil
  | _, _, .cons a b => .cons (Rep.mono l a) (RepK.mono l b)
end
theorem RepF.mono (l : GLe g g') : ∀ {v : List (Str × V)} {d : List (Str × D)}, RepF K g v d → RepF K g' v d
  | _, _, .nil => .nil
  | _, _, .cons a b => .cons (Rep.mono l a) (RepF.mono l b)

theorem RepL.length : ∀ {v : List V} {d : List D}, RepL K g v d → v.length = d.length
  | _, _, .nil => rfl
  | _, _, .cons _ b => by rw [List.length_cons, List.length_cons, RepL.length b]
theorem RepL.append : ∀ {v w : List V} {d e : List D}, RepL K g v d → RepL K g w e → RepL K g (v ++ w) (d ++ e)
  | _, _, _, _, .nil, h => h
  | _, _, _, _, .cons a b, h => .cons a (RepL.append b h)
theorem RepL.one {v : V} {d : D} (h : Rep K g v d) : RepL K g [v] [d] := .cons h .nil
theorem RepL.take : ∀ {v : List V} {d : List D} (n : Nat), RepL K g v d → RepL K g (v.take n) (d.take n)
  | _, _, 0, _ => .nil
  | _, _, _ + 1, .nil => .nil
  | _, _, n + 1, .cons a b => .cons a (RepL.take n b)
theorem RepL.drop : ∀ {v : List V} {d : List D} (n : Nat), RepL K g v d → RepL K g (v.drop n) (d.drop n)
  | _, _, 0, h => h
  | _, _, _ + 1, .nil => .nil
  | _, _, n + 1, .cons _ b => RepL.drop n b
theorem RepL.get : ∀ {v : List V} {d : List D} {i : Nat} {x : D}, RepL K g v d → d[i]? = some x → ∃ u, v[i]? = some u ∧ Rep K g u x
  | _, _, _, _, .nil, e => by simp at e
  | _, _, 0, _, .cons a b, e => by simp at e; subst e; exact ⟨_, rfl, a⟩
  | _, _, i + 1, x, .cons a b, e => by
    obtain ⟨u, h1, h2⟩ := RepL.get (i := i) (x := x) b (by simpa using e)
    exact ⟨u, by simpa using h1, h2⟩
theorem RepL.get' : ∀ {v : List V} {d : List D} {i : Nat} {u : V}, RepL K g v d → v[i]? = some u → ∃ x, d[i]? = some x ∧ Rep K g u x
  | _, _, _, _, .nil, e => by simp at e
  | _, _, 0, _, .cons a b, e => by simp at e; subst e; exact ⟨_, rfl, a⟩
  | _, _, i + 1, x, .cons a b, e => by
    obtain ⟨u, h1, h2⟩ := RepL.get' (i := i) (u := x) b (by simpa using e)
    exact ⟨u, by simpa using h1, h2⟩
theorem RepL.set {x : D} {u : V} (h : Rep K g u x) : ∀ {v : List V} {d : List D} (i : Nat), RepL K g v d → RepL K g (v.set i u) (d.set i x)
  | _, _, _, .nil => .nil
  | _, _, 0, .cons _ b => .cons h b
  | _, _, i + 1, .cons a b => .cons a (RepL.set h i b)
theorem RepL.reverse {v : List V} {d : List D} (h : RepL K g v d) : RepL K g v.reverse d.reverse := by
  induction v generalizing d with
  | nil => cases h; exact .nil
  | cons a v ih =>
    cases h with
    | cons x y =>
      rw [List.reverse_cons, List.reverse_cons]
      exact (ih y).append (.one x)
theorem RepL.eraseIdx : ∀ {v : List V} {d : List D} (i : Nat), RepL K g v d → RepL K g (v.eraseIdx i) (d.eraseIdx i)
  | _, _, _, .nil => .nil
  | _, _, 0, .cons _ b => b
  | _, _, i + 1, .cons a b => .cons a (RepL.eraseIdx i b)
end

/-- an object of the store at an address -/
def ObjRep (K : PySem.W.Frag) (g : G) (H : Hp) (a : Addr) : MObj → Prop
  | .lst xs => ∃ vs, H a = some (.lst vs) ∧ RepL K g vs xs
  | .dic kvs => ∃ vs, H a = some (.dK vs) ∧ RepK K g vs kvs
  | .ins c fs => ∃ dx vs, H a = some (.ins (He.ga K c) dx vs) ∧ RepF K g vs fs
theorem ObjRep.some {K : PySem.W.Frag} {g : G} {H : Hp} {a : Addr} {o : MObj} (h : ObjRep K g H a o) : ∃ u, H a = Option.some u := by
  cases o with
  | lst xs => obtain ⟨vs, e, _⟩ := h; exact ⟨_, e⟩
  | dic xs => obtain ⟨vs, e, _⟩ := h; exact ⟨_, e⟩
  | ins c fs => obtain ⟨dx, vs, e, _⟩ := h; exact ⟨_, e⟩
theorem ObjRep.mono {K : PySem.W.Frag} {g g' : G} {H H' : Hp} {a : Addr} {o : MObj} (l : GLe g g') (e : H' a = H a) (h : ObjRep K g H a o) : ObjRep K g' H' a o := by
  cases o with
  | lst xs => obtain ⟨vs, q, r⟩ := h; exact ⟨vs, e.trans q, r.mono l⟩
  | dic xs => obtain ⟨vs, q, r⟩ := h; exact ⟨vs, e.trans q, r.mono l⟩
  | ins c fs => obtain ⟨dx, vs, q, r⟩ := h; exact ⟨dx, vs, e.trans q, r.mono l⟩

def SlotRep (K : PySem.W.Frag) (g : G) (σ : St) (i : Nat) : Slot → Prop
  | .none => True
  | .val d => ∃ v, σ[i]? = some (some v) ∧ Rep K g v d
  | .own _ => σ[i]? = some (some (.ref (g.adr (.sl i))))

def Live (g : G) (s : S) (a : Addr) : Prop := ∃ l o, cellOf s l = some o ∧ g.adr l = a
/-- the state s is what the slots and the heap are -/
structure Ok (K : PySem.W.Frag) (g : G) (s : S) (σ : St) (H : Hp) : Prop where
  sub : Sub g.F H
  cell : ∀ l o, cellOf s l = some o → g.F (g.adr l) = none ∧ ObjRep K g H (g.adr l) o
  inj : ∀ l l' o o', cellOf s l = some o → cellOf s l' = some o' → g.adr l = g.adr l' → l = l'
  env : ∀ i x, s.env[i]? = some x → SlotRep K g σ i x
  len : s.env.length = σ.length
  ng : g.ng = s.gl.length
  prot : ∀ a, g.P a → (∃ u, H a = some u) ∧ g.F a = none ∧ ¬ Live g s a

/-- from (g, H) to (g', H') -/
structure Step (g : G) (H : Hp) (g' : G) (H' : Hp) : Prop where
  le : GLe g g'
  P : g'.P = g.P
  keep : ∀ a, g.P a → H' a = H a
theorem Step.refl (g : G) (H : Hp) : Step g H g H := ⟨GLe.refl _, rfl, fun _ _ => rfl⟩
theorem Step.trans {g g' g'' : G} {H H' H'' : Hp} (a : Step g H g' H') (b : Step g' H' g'' H'') : Step g H g'' H'' :=
  ⟨a.le.trans b.le, b.P.trans a.P, fun x p => (b.keep x (by rw [a.P]; exact p)).trans (a.keep x p)⟩

def RepRV (K : PySem.W.Frag) (g : G) (s : S) (H : Hp) (v : V) : RV → Prop
  | .d x => Rep K g v x
  | .at i => v = .ref (g.adr (.sl i))
  | .new o => ∃ a, v = .ref a ∧ g.F a = none ∧ ¬ g.P a ∧ ¬ Live g s a ∧ ObjRep K g H a o
/-- slots' objects stay at their places -/
def SlKeep (g g' : G) : Prop := ∀ i, g'.adr (.sl i) = g.adr (.sl i)
theorem SlKeep.refl (g : G) : SlKeep g g := fun _ => rfl
theorem SlKeep.trans {a b c : G} (x : SlKeep a b) (y : SlKeep b c) : SlKeep a c := fun i => (y i).trans (x i)

/-! ### what follows a part -/
abbrev M := S → Res RV
/-- an exception: the class by name, its one field (as a pair of its name and its value), or none -/
def ExcRep (K : PySem.W.Frag) (g : G) (H : Hp) (cls : Value) (d : Option Addr) (c : Str) (p : D) : Prop :=
  cls = .ref (He.ga K c) ∧ ((d = none ∧ p = .non) ∨ ∃ dx f v q, d = some dx ∧ H dx = some (.xd [(f, v)]) ∧ p = .tup [.str f, q] ∧ Rep K g v q)
theorem ExcRep.mono {K : PySem.W.Frag} {g g' : G} {H : Hp} {cls : Value} {d : Option Addr} {c : Str} {p : D} (l : GLe g g') (h : ExcRep K g H cls d c p) : ExcRep K g' H cls d c p := by
  obtain ⟨h1, h2 | ⟨dx, f, v, q, e1, e2, e3, r⟩⟩ := h
  · exact ⟨h1, .inl h2⟩
  · exact ⟨h1, .inr ⟨dx, f, v, q, e1, e2, e3, r.mono l⟩⟩
def PostE (K : PySem.W.Frag) (W : WX) (σ : St) (g : G) (s : S) (H : Hp) {α : Type} (k : α → G → S → Hp → Prop) : Res α → Prop
  | .ok a s' => ∀ g' H', Step g H g' H' → SlKeep g g' → Ok K g' s' σ H' → k a g' s' H'
  | .exc c p s' => ∀ cls d g' H', Step g H g' H' → SlKeep g g' → Ok K g' s' σ H' → ExcRep K g' H' cls d c p → W cls d σ H'
  | .stuck => False
abbrev kE (K : PySem.W.Frag) (Q : VK) : RV → G → S → Hp → Prop := fun r g s H => ∀ v, RepRV K g s H v r → Q v H
abbrev kL (K : PySem.W.Frag) (Q : List V → Hp → Prop) : List D → G → S → Hp → Prop := fun r g _ H => ∀ v, RepL K g v r → Q v H
abbrev kB (Q : Bool → Hp → Prop) : Bool → G → S → Hp → Prop := fun r _ _ H => Q r H
/-- mirrors as readings: an expression, an argument list, a test -/
def tM (K : PySem.W.Frag) (W : WX) (m : M) : TE := fun σ H Q => ∃ g s, Ok K g s σ H ∧ PostE K W σ g s H (kE K Q) (m s)
def tMA (K : PySem.W.Frag) (W : WX) (m : S → Res (List D)) : TA := fun σ H Q => ∃ g s, Ok K g s σ H ∧ PostE K W σ g s H (kL K Q) (m s)
def tMT (K : PySem.W.Frag) (W : WX) (m : S → Res Bool) : TT := fun σ H Q => ∃ g s, Ok K g s σ H ∧ PostE K W σ g s H (kB Q) (m s)
def ME (X : Cx) (W : WX) (e : Expr) (m : M) : Prop := PE X e (tM X.K W m)
def MA (X : Cx) (W : WX) (es : List Expr) (m : S → Res (List D)) : Prop := PA X es (tMA X.K W m)
def MT (X : Cx) (W : WX) (e : Expr) (m : S → Res Bool) : Prop := PT X e (tMT X.K W m)

def PostS (K : PySem.W.Frag) (W : WX) (g : G) (s : S) (H : Hp) (D : Ends) : Res Out → Prop
  | .ok .nx s' => ∀ σ' g' H', Step g H g' H' → Ok K g' s' σ' H' → D.nx σ' H'
  | .ok .bk s' => ∀ σ' g' H', Step g H g' H' → Ok K g' s' σ' H' → D.bk σ' H'
  | .ok .ct s' => ∀ σ' g' H', Step g H g' H' → Ok K g' s' σ' H' → D.ct σ' H'
  | .ok (.rt d) s' => ∀ v σ' g' H', Step g H g' H' → Ok K g' s' σ' H' → Rep K g' v d → D.rt v H'
  | .exc c p s' => ∀ σ' cls d g' H', Step g H g' H' → Ok K g' s' σ' H' → ExcRep K g' H' cls d c p → W cls d σ' H'
  | .stuck => False
def tMS (K : PySem.W.Frag) (W : WX) (m : S → Res Out) : TS := fun D σ H => ∃ g s, Ok K g s σ H ∧ PostS K W g s H D (m s)
def MS (X : Cx) (W : WX) (st : Stmt) (m : S → Res Out) : Prop := PS X st (tMS X.K W m)
def MSs (X : Cx) (W : WX) (st : List Stmt) (m : S → Res Out) : Prop := PSs X st (tMS X.K W m)

theorem pe_imp {X : Cx} {e : Expr} {t t' : TE} (h : PE X e t) (i : ∀ σ H Q, t' σ H Q → t σ H Q) : PE X e t' :=
  ⟨fun pins s σ H Q I q => h.run pins s σ H Q I (i σ H Q q)⟩
theorem pt_imp {X : Cx} {e : Expr} {t t' : TT} (h : PT X e t) (i : ∀ σ H Q, t' σ H Q → t σ H Q) : PT X e t' :=
  ⟨fun pins s σ H Q I q => h.run pins s σ H Q I (i σ H Q q)⟩
theorem pa_imp {X : Cx} {e : List Expr} {t t' : TA} (h : PA X e t) (i : ∀ σ H Q, t' σ H Q → t σ H Q) : PA X e t' :=
  ⟨fun pos pins s σ H Q I q => h.run pos pins s σ H Q I (i σ H Q q)⟩
theorem ps_imp {X : Cx} {e : Stmt} {t t' : TS} (h : PS X e t) (i : ∀ D σ H, t' D σ H → t D σ H) : PS X e t' :=
  ⟨fun pins s σ H D I q => h.run pins s σ H D I (i D σ H q)⟩
theorem pss_imp {X : Cx} {e : List Stmt} {t t' : TS} (h : PSs X e t) (i : ∀ D σ H, t' D σ H → t D σ H) : PSs X e t' :=
  ⟨fun pins s σ H D I q => h.run pins s σ H D I (i D σ H q)⟩

def Res.bind {α β : Type} (r : Res α) (f : α → S → Res β) : Res β := match r with
  | .ok a s => f a s
  | .exc c p s => .exc c p s
  | .stuck => .stuck
@[simp] theorem Res.bind_ok {α β : Type} (a : α) (s : S) (f : α → S → Res β) : (Res.ok a s).bind f = f a s := rfl
@[simp] theorem Res.bind_exc {α β : Type} (c : Str) (p : D) (s : S) (f : α → S → Res β) : (Res.exc c p s).bind f = .exc c p s := rfl
@[simp] theorem Res.bind_stuck {α β : Type} (f : α → S → Res β) : (Res.stuck : Res α).bind f = .stuck := rfl

section
variable {K : PySem.W.Frag} {W : WX} {σ : St} {g : G} {s : S} {H : Hp} {α β : Type} {k : α → G → S → Hp → Prop} {D : Ends}
theorem PostE.mono {k' : α → G → S → Hp → Prop} {r : Res α} (h : PostE K W σ g s H k r)
    (i : ∀ a g' s' H', Step g H g' H' → SlKeep g g' → Ok K g' s' σ H' → k a g' s' H' → k' a g' s' H') : PostE K W σ g s H k' r := by
  cases r with
  | ok a s' => exact fun g' H' t sk o => i _ _ _ _ t sk o (h g' H' t sk o)
  | exc c p s' => exact h
  | stuck => exact h
theorem PostE.bind {r : Res β} {f : β → S → Res α} (h : PostE K W σ g s H k (r.bind f)) :
    PostE K W σ g s H (fun b g' s' H' => PostE K W σ g' s' H' k (f b s')) r := by
  cases r with
  | ok b s' =>
    intro g' H' t sk o
    have h' : PostE K W σ g s H k (f b s') := h
    show PostE K W σ g' s' H' k (f b s')
    cases e : f b s' with
    | ok a s'' => rw [e] at h'; exact fun g'' H'' t' sk' o' => h' g'' H'' (t.trans t') (sk.trans sk') o'
    | exc c p s'' => rw [e] at h'; exact fun cls d g'' H'' t' sk' o' x => h' cls d g'' H'' (t.trans t') (sk.trans sk') o' x
    | stuck => rw [e] at h'; exact h'
  | exc c p s' => exact h
  | stuck => exact h
/-- a part that only turns the ghost -/
theorem PostE.ghost {r : Res α} {g' : G} {s' : S} (h : PostE K W σ g s H k r) (t : Step g H g' H) (sk : SlKeep g g') : PostE K W σ g' s' H k r := by
  cases r with
  | ok a s'' => exact fun g'' H'' t' sk' o' => h g'' H'' (t.trans t') (sk.trans sk') o'
  | exc c p s'' => exact fun cls d g'' H'' t' sk' o' x => h cls d g'' H'' (t.trans t') (sk.trans sk') o' x
  | stuck => exact h
theorem PostE.after {r : Res α} {g' : G} {s' : S} {H' : Hp} (h : PostE K W σ g s H k r) (t : Step g H g' H') (sk : SlKeep g g') : PostE K W σ g' s' H' k r := by
  cases r with
  | ok a s'' => exact fun g'' H'' t' sk' o' => h g'' H'' (t.trans t') (sk.trans sk') o'
  | exc c p s'' => exact fun cls d g'' H'' t' sk' o' x => h cls d g'' H'' (t.trans t') (sk.trans sk') o' x
  | stuck => exact h
theorem PostE.done {a : α} (h : PostE K W σ g s H k (.ok a s)) (o : Ok K g s σ H) : k a g s H := h g H (Step.refl _ _) (SlKeep.refl _) o
theorem PostS.bind {r : Res β} {f : β → S → Res Out} (h : PostS K W g s H D (r.bind f)) :
    PostE K W σ g s H (fun b g' s' H' => PostS K W g' s' H' D (f b s')) r := by
  cases r with
  | ok b s' =>
    intro g' H' t sk o
    have h' : PostS K W g s H D (f b s') := h
    show PostS K W g' s' H' D (f b s')
    cases e : f b s' with
    | ok a s'' =>
      rw [e] at h'
      cases a with
      | nx => exact fun σ'' g'' H'' t' o' => h' σ'' g'' H'' (t.trans t') o'
      | bk => exact fun σ'' g'' H'' t' o' => h' σ'' g'' H'' (t.trans t') o'
      | ct => exact fun σ'' g'' H'' t' o' => h' σ'' g'' H'' (t.trans t') o'
      | rt d => exact fun v σ'' g'' H'' t' o' x => h' v σ'' g'' H'' (t.trans t') o' x
    | exc c p s'' => rw [e] at h'; exact fun σ'' cls d g'' H'' t' o' x => h' σ'' cls d g'' H'' (t.trans t') o' x
    | stuck => rw [e] at h'; exact h'
  | exc c p s' => exact fun cls d g' H' t sk o x => h σ cls d g' H' t o x
  | stuck => exact h
theorem PostS.after {r : Res Out} {g' : G} {s' : S} {H' : Hp} (h : PostS K W g s H D r) (t : Step g H g' H') : PostS K W g' s' H' D r := by
  cases r with
  | ok a s'' =>
    cases a with
    | nx => exact fun σ'' g'' H'' t' o' => h σ'' g'' H'' (t.trans t') o'
    | bk => exact fun σ'' g'' H'' t' o' => h σ'' g'' H'' (t.trans t') o'
    | ct => exact fun σ'' g'' H'' t' o' => h σ'' g'' H'' (t.trans t') o'
    | rt d => exact fun v σ'' g'' H'' t' o' x => h v σ'' g'' H'' (t.trans t') o' x
  | exc c p s'' => exact fun σ'' cls d g'' H'' t' o' x => h σ'' cls d g'' H'' (t.trans t') o' x
  | stuck => exact h
end

/-! ### the ghost's own steps -/
section
variable {K : PySem.W.Frag} {σ : St} {g : G} {s : S} {H : Hp}
theorem Ok.live {a : Addr} (ok : Ok K g s σ H) (l : Live g s a) : ∃ u, H a = some u := by
  obtain ⟨l, o, e, rfl⟩ := l
  exact (ok.cell l o e).2.some
theorem Ok.fnone {a : Addr} (ok : Ok K g s σ H) (n : H a = none) : g.F a = none := by
  cases e : g.F a with
  | none => rfl
  | some u => rw [ok.sub _ _ e] at n; cases n
theorem Ok.pnone {a : Addr} (ok : Ok K g s σ H) (n : H a = none) : ¬ g.P a := fun p => by
  obtain ⟨⟨u, e⟩, _⟩ := ok.prot a p
  rw [n] at e; cases e
theorem Ok.lnone {a : Addr} (ok : Ok K g s σ H) (n : H a = none) : ¬ Live g s a := fun p => by
  obtain ⟨u, e⟩ := ok.live p
  rw [n] at e; cases e
/-- a new tracked object, not in the store -/
theorem Ok.grow {a : Addr} {o : HO} (ok : Ok K g s σ H) (n : H a = none) : Ok K g s σ (upd H a o) := by
  have ne : ∀ b u, H b = some u → b ≠ a := fun b u e z => by rw [z, n] at e; cases e
  refine ⟨fun b u e => by rw [upd_ne (ne b u (ok.sub b u e))]; exact ok.sub b u e, fun l u e => ?_, ok.inj, ok.env, ok.len, ok.ng, fun b p => ?_⟩
  · obtain ⟨f, r⟩ := ok.cell l u e
    obtain ⟨w, hw⟩ := r.some
    exact ⟨f, r.mono (GLe.refl _) (upd_ne (ne _ _ hw))⟩
  · obtain ⟨⟨u, e⟩, f, l⟩ := ok.prot b p
    exact ⟨⟨u, by rw [upd_ne (ne _ _ e)]; exact e⟩, f, l⟩
theorem Step.grow {a : Addr} {o : HO} (ok : Ok K g s σ H) (n : H a = none) : Step g H g (upd H a o) := by
  refine ⟨GLe.refl _, rfl, fun b p => upd_ne fun z => ?_⟩
  obtain ⟨⟨u, e⟩, _⟩ := ok.prot b p
  rw [z, n] at e; cases e
/-- a tracked object that is not in the store comes to stand for good -/
def G.frz (g : G) (a : Addr) (o : HO) : G := { g with F := upd g.F a o }
theorem frz_le {a : Addr} {o : HO} (n : g.F a = none) : GLe g (g.frz a o) := by
  refine ⟨fun b u e => ?_, Nat.le_refl _, fun _ _ => rfl⟩
  show upd g.F a o b = _
  rw [upd_ne (fun z => by rw [z, n] at e; cases e)]
  exact e
theorem SlotRep.mono {g' : G} {i : Nat} {x : Slot} (l : GLe g g') (k : SlKeep g g') (h : SlotRep K g σ i x) : SlotRep K g' σ i x := by
  cases x with
  | none => trivial
  | val d =>
    obtain ⟨v, e, r⟩ := h
    exact ⟨v, e, r.mono l⟩
  | own o =>
    show σ[i]? = _
    rw [k i]; exact h
theorem Ok.frz {a : Addr} {o : HO} (ok : Ok K g s σ H) (h : H a = some o) (n : g.F a = none) (np : ¬ g.P a) (nl : ¬ Live g s a) : Ok K (g.frz a o) s σ H := by
  have f0 : ∀ b, b ≠ a → (g.frz a o).F b = g.F b := fun b z => upd_ne z
  refine ⟨fun b u e => ?_, fun l u e => ?_, ok.inj, fun i x e => (ok.env i x e).mono (frz_le n) (SlKeep.refl _), ok.len, ok.ng, fun b p => ?_⟩
  · by_cases z : b = a
    · subst z
      have e' : upd g.F b o b = some u := e
      rw [upd_same] at e'
      rw [h]; exact e'
    · rw [f0 b z] at e
      exact ok.sub b u e
  · obtain ⟨f, r⟩ := ok.cell l u e
    exact ⟨(f0 _ fun z => nl ⟨l, u, e, z⟩).trans f, r.mono (frz_le n) rfl⟩
  · obtain ⟨e, f, l⟩ := ok.prot b p
    exact ⟨e, (f0 b fun z => np (z ▸ p)).trans f, l⟩
theorem Step.frz {a : Addr} {o : HO} (n : g.F a = none) : Step g H (g.frz a o) H := ⟨frz_le n, rfl, fun _ _ => rfl⟩
end
end MI
/-! # Expressions -/
namespace MI
open PySem L2

section
variable {K : PySem.W.Frag} {W : WX} {σ : St} {g : G} {s : S} {H : Hp}
/-- the end of an operation that makes nothing new -/
theorem kE_d {Q : VK} {x : D} {v : V} (h : PostE K W σ g s H (kE K Q) (.ok (.d x) s)) (o : Ok K g s σ H) (r : Rep K g v x) : Q v H := (PostE.done h o) v r
/-- .. that makes a new tracked object -/
theorem kE_new {Q : VK} {o : MObj} {ho : HO} {p : Addr} (h : PostE K W σ g s H (kE K Q) (.ok (.new o) s)) (k : Ok K g s σ H) (n : H p = none)
    (r : ObjRep K g (upd H p ho) p o) : Q (.ref p) (upd H p ho) :=
  h g _ (Step.grow k n) (SlKeep.refl _) (k.grow n) _ ⟨p, rfl, k.fnone n, k.pnone n, k.lnone n, r⟩
/-- a new tuple stands for good at once -/
theorem kE_tup {Q : VK} {ds : List D} {vs : List V} {p : Addr} (h : PostE K W σ g s H (kE K Q) (.ok (.d (.tup ds)) s)) (k : Ok K g s σ H) (n : H p = none)
    (r : RepL K g vs ds) : Q (.ref p) (upd H p (.tup vs)) := by
  have k1 := k.grow (o := .tup vs) n
  have k2 := k1.frz (o := .tup vs) upd_same (k.fnone n) (k.pnone n) (k.lnone n)
  refine h (g.frz p (.tup vs)) _ ((Step.grow k n).trans (Step.frz (k.fnone n))) (SlKeep.refl _) k2 _ (.tup (.inl (.inl ?_)) (r.mono (frz_le (k.fnone n))))
  exact upd_same
end

/-- a new object that is held while other parts run stands for good -/
def frzO : MObj → Option D
  | .lst xs => some (.lst xs)
  | .dic kvs => some (.dic kvs)
  | .ins _ _ => none
def settle : RV → Option RV
  | .new o => (frzO o).map .d
  | r => some r
/-- a value goes out of hand: a slot's object, a new one, stand for good from there on -/
def leak : RV → S → Option (D × S)
  | .d x, s => some (x, s)
  | .new o, s => (frzO o).map fun d => (d, s)
  | .at i, s => match s.env[i]? with
    | some (.own o) => (frzO o).map fun d => (d, { s with env := s.env.set i (.val d) })
    | _ => none

section
variable {K : PySem.W.Frag} {W : WX} {σ : St} {g : G} {s : S} {H : Hp}
theorem frzO_rep {g : G} {H : Hp} {a : Addr} {o : MObj} {d : D} (e : frzO o = some d) (r : ObjRep K g H a o) (n : g.F a = none) :
    ∃ u, H a = some u ∧ Rep K (g.frz a u) (.ref a) d := by
  cases o with
  | lst xs =>
    cases e
    obtain ⟨vs, h, r⟩ := r
    exact ⟨_, h, .lst upd_same (r.mono (frz_le n))⟩
  | dic xs =>
    cases e
    obtain ⟨vs, h, r⟩ := r
    exact ⟨_, h, .dic upd_same (r.mono (frz_le n))⟩
  | ins c fs => cases e
theorem settle_ok {v : V} {r r' : RV} (ok : Ok K g s σ H) (h : RepRV K g s H v r) (e : settle r = some r') :
    ∃ g', Step g H g' H ∧ SlKeep g g' ∧ Ok K g' s σ H ∧ RepRV K g' s H v r' := by
  cases r with
  | d x => cases e; exact ⟨g, Step.refl _ _, SlKeep.refl _, ok, h⟩
  | «at» i => cases e; exact ⟨g, Step.refl _ _, SlKeep.refl _, ok, h⟩
  | new o =>
    obtain ⟨a, rfl, n, np, nl, q⟩ := h
    cases e' : frzO o with
    | none => simp only [settle, e', Option.map_some, Option.map_none] at e; cases e
    | some d =>
      simp only [settle, e', Option.map_some, Option.map_none] at e; cases e
      obtain ⟨u, hu, r⟩ := frzO_rep e' q n
      exact ⟨g.frz a u, Step.frz n, SlKeep.refl _, ok.frz hu n np nl, r⟩
/-- a slot's object is given up: the slot holds data -/
theorem Ok.giveup {i : Nat} {o : MObj} {d : D} {u : HO} (ok : Ok K g s σ H) (e : s.env[i]? = some (.own o)) (hu : H (g.adr (.sl i)) = some u)
    (r : Rep K (g.frz (g.adr (.sl i)) u) (.ref (g.adr (.sl i))) d) : Ok K (g.frz (g.adr (.sl i)) u) { s with env := s.env.set i (.val d) } σ H := by
  have hi : i < s.env.length := (List.getElem?_eq_some_iff.mp e).1
  have ce : cellOf s (.sl i) = some o := by show (match s.env[i]? with | some (.own o) => some o | _ => none) = _; rw [e]
  obtain ⟨n, _⟩ := ok.cell _ _ ce
  have sub : ∀ l w, cellOf { s with env := s.env.set i (.val d) } l = some w → l ≠ .sl i ∧ cellOf s l = some w := by
    intro l w h
    cases l with
    | gl n => exact ⟨(fun z => nomatch z), h⟩
    | sl j =>
      by_cases z : j = i
      · subst z
        have h' : (match (s.env.set j (.val d))[j]? with | some (.own o) => some o | _ => none) = some w := h
        rw [List.getElem?_set_self hi] at h'
        cases h'
      · refine ⟨fun q => z (by cases q; rfl), ?_⟩
        have h' : (match (s.env.set i (.val d))[j]? with | some (.own o) => some o | _ => none) = some w := h
        rw [List.getElem?_set_ne (Ne.symm z)] at h'
        exact h'
  have ne : ∀ l w, cellOf s l = some w → l ≠ .sl i → g.adr l ≠ g.adr (.sl i) := fun l w h z q => z (ok.inj _ _ _ _ h ce q)
  refine ⟨fun b w q => ?_, fun l w q => ?_, fun l l' w w' q q' z => ok.inj l l' w w' (sub l w q).2 (sub l' w' q').2 z, fun j x q => ?_, by rw [List.length_set]; exact ok.len, ok.ng, fun b p => ?_⟩
  · have q' : upd g.F (g.adr (.sl i)) u b = some w := q
    by_cases z : b = g.adr (.sl i)
    · rw [z, upd_same] at q'
      rw [z, hu]; exact q'
    · rw [upd_ne z] at q'
      exact ok.sub b w q'
  · obtain ⟨h1, h2⟩ := sub l w q
    obtain ⟨f, r'⟩ := ok.cell l w h2
    refine ⟨?_, r'.mono (frz_le n) rfl⟩
    show upd g.F (g.adr (.sl i)) u (g.adr l) = none
    rw [upd_ne (ne l w h2 h1)]
    exact f
  · by_cases z : j = i
    · subst z
      rw [List.getElem?_set_self hi] at q
      cases q
      exact ⟨_, ok.env j _ e, r⟩
    · rw [List.getElem?_set_ne (Ne.symm z)] at q
      exact (ok.env j x q).mono (frz_le n) (SlKeep.refl _)
  · obtain ⟨e1, f, l⟩ := ok.prot b p
    refine ⟨e1, ?_, fun ⟨l', w, q, z⟩ => l ⟨l', w, (sub l' w q).2, z⟩⟩
    show upd g.F (g.adr (.sl i)) u b = none
    rw [upd_ne (fun z => l ⟨_, _, ce, z.symm⟩)]
    exact f
theorem leak_ok {v : V} {r : RV} {d : D} {s' : S} (ok : Ok K g s σ H) (h : RepRV K g s H v r) (e : leak r s = some (d, s')) :
    ∃ g', Step g H g' H ∧ SlKeep g g' ∧ Ok K g' s' σ H ∧ Rep K g' v d := by
  cases r with
  | d x => cases e; exact ⟨g, Step.refl _ _, SlKeep.refl _, ok, h⟩
  | new o =>
    obtain ⟨a, rfl, n, np, nl, q⟩ := h
    cases e' : frzO o with
    | none => simp only [leak, e', Option.map_some, Option.map_none] at e; cases e
    | some d' =>
      simp only [leak, e', Option.map_some, Option.map_none] at e; cases e
      obtain ⟨u, hu, r⟩ := frzO_rep e' q n
      exact ⟨g.frz a u, Step.frz n, SlKeep.refl _, ok.frz hu n np nl, r⟩
  | «at» i =>
    have hv : v = .ref (g.adr (.sl i)) := h
    subst hv
    unfold leak at e
    cases e1 : s.env[i]? with
    | none => simp only [e1] at e; cases e
    | some w =>
      cases w with
      | none => simp only [e1] at e; cases e
      | val x => simp only [e1] at e; cases e
      | own o =>
        simp only [e1] at e
        cases e' : frzO o with
        | none => simp only [e'] at e; cases e
        | some d' =>
          simp only [e'] at e; cases e
          have ce : cellOf s (.sl i) = some o := by show (match s.env[i]? with | some (.own o) => some o | _ => none) = _; rw [e1]
          obtain ⟨n, q⟩ := ok.cell _ _ ce
          obtain ⟨u, hu, r⟩ := frzO_rep e' q n
          exact ⟨_, Step.frz n, SlKeep.refl _, ok.giveup e1 hu r, r⟩
end

/-! ### names, constants -/
def mVar (i : Nat) : M := fun s => match s.env[i]? with
  | some (.val x) => .ok (.d x) s
  | some (.own _) => .ok (.at i) s
  | _ => .stuck
def mC (x : D) : M := fun s => .ok (.d x) s
def mLeak (m : M) : S → Res D := fun s => (m s).bind fun r s1 => match leak r s1 with
  | some (d, s2) => .ok d s2
  | none => .stuck
def mSettle (m : M) : M := fun s => (m s).bind fun r s1 => match settle r with
  | some r' => .ok r' s1
  | none => .stuck

section
variable {X : Cx} {W : WX}
theorem me_var {i : Nat} {x : Str} {pos : Pos} (hN : X.N[i]? = some x := by rfl) (hv : Vis X.env.scope x := by first | exact Or.inl rfl | exact Or.inr (Or.inl rfl) | exact Or.inr (Or.inr rfl)) (hd : (x == ("__debug__" : Str)) = false := by decide) (hcd : (x == ("__classdict__" : Str)) = false := by decide) :
    ME X W (.Name x pos) (mVar i) := by
  refine pe_imp (pe_var (i := i) hN hv hd hcd) fun σ H Q ⟨g, s, ok, h⟩ => ?_
  unfold mVar at h
  cases e : s.env[i]? with
  | none => simp only [e] at h; exact h.elim
  | some w =>
    cases w with
    | none => simp only [e] at h; exact h.elim
    | val x =>
      simp only [e] at h
      obtain ⟨v, ev, r⟩ := ok.env i _ e
      exact ⟨v, ev, kE_d h ok r⟩
    | own o =>
      simp only [e] at h
      exact ⟨_, ok.env i _ e, PostE.done h ok _ rfl⟩
theorem me_int {i : Int} {j pos} : ME X W (.Constant (.int i) j pos) (mC (.int i)) := pe_imp pe_int fun σ H Q ⟨g, s, ok, h⟩ => kE_d h ok (.int i)
theorem me_bl {b : Bool} {j pos} : ME X W (.Constant (.bool b) j pos) (mC (.bl b)) := pe_imp pe_bl fun σ H Q ⟨g, s, ok, h⟩ => kE_d h ok (.bl b)
theorem me_non {j pos} : ME X W (.Constant .none j pos) (mC .non) := pe_imp pe_non fun σ H Q ⟨g, s, ok, h⟩ => kE_d h ok .non
theorem me_str {x : Str} {j pos} : ME X W (.Constant (.str x) j pos) (mC (.str x)) := pe_imp pe_str fun σ H Q ⟨g, s, ok, h⟩ => kE_d h ok (.str x)
theorem me_glob {x : Str} {v : V} {u : Value} {d : D} {pos : Pos} (hg : Gl X x) (hm : X.mg x = some u) (r : RelV v u) (hr : ∀ g, Rep X.K g v d) (hd : (x == ("__debug__" : Str)) = false := by decide) : ME X W (.Name x pos) (mC d) :=
  pe_imp (pe_glob hg hm r hd) fun σ H Q ⟨g, s, ok, h⟩ => kE_d h ok (hr g)

/-! ### two operands -/
def mBin (f : S → RV → RV → Res RV) (a b : M) : M := fun s => (mSettle a s).bind fun x s1 => (b s1).bind fun y s2 => f s2 x y
def OpS (X : Cx) (W : WX) (r : R2) (f : S → RV → RV → Res RV) : Prop :=
  ∀ (σ : St) (g : G) (s : S) (H : Hp) (Q : VK) (x y : V) (ra rb : RV), Ok X.K g s σ H → RepRV X.K g s H x ra → RepRV X.K g s H y rb → (∀ o, ra ≠ .new o) →
    PostE X.K W σ g s H (kE X.K Q) (f s ra rb) → r x y H Q
theorem RepRV.held {K : PySem.W.Frag} {g g' : G} {s s' : S} {H H' : Hp} {v : V} {r : RV} (n : ∀ o, r ≠ .new o) (t : Step g H g' H') (k : SlKeep g g') (h : RepRV K g s H v r) : RepRV K g' s' H' v r := by
  cases r with
  | d x => exact Rep.mono t.le h
  | «at» i => show v = _; rw [k i]; exact h
  | new o => exact absurd rfl (n o)
theorem settle_no {r r' : RV} (e : settle r = some r') : ∀ o, r' ≠ .new o := by
  cases r with
  | d x => cases e; exact fun o z => by cases z
  | «at» i => cases e; exact fun o z => by cases z
  | new o =>
    cases e' : frzO o with
    | none => simp only [settle, e', Option.map_none] at e; cases e
    | some d => simp only [settle, e', Option.map_some] at e; cases e; exact fun o z => by cases z
/-- the settled reading of a part -/
theorem tM_settle {K : PySem.W.Frag} {m : M} {σ : St} {H : Hp} {Q : VK} {g : G} {s : S} {k : RV → G → S → Hp → Prop} (ok : Ok K g s σ H)
    (h : PostE K W σ g s H k (mSettle m s)) (q : ∀ r g' s' H' v, Step g H g' H' → SlKeep g g' → Ok K g' s' σ H' → RepRV K g' s' H' v r → (∀ o, r ≠ .new o) → k r g' s' H' → Q v H') : tM K W m σ H Q := by
  refine ⟨g, s, ok, (PostE.bind h).mono fun r g1 s1 H1 t1 k1 o1 h1 v rv => ?_⟩
  cases e : settle r with
  | none => rw [e] at h1; exact h1.elim
  | some r' =>
    rw [e] at h1
    obtain ⟨g2, t2, k2, o2, rv2⟩ := settle_ok o1 rv e
    have h2 := h1 g2 H1 t2 k2 o2
    exact q r' g2 s1 H1 v (t1.trans t2) (k1.trans k2) o2 rv2 (settle_no e) h2
theorem tOp_of {r : R2} {f : S → RV → RV → Res RV} {ma mb : M} (hs : OpS X W r f) {σ : St} {H : Hp} {Q : VK} {g : G} {s : S} (ok : Ok X.K g s σ H)
    (h : PostE X.K W σ g s H (kE X.K Q) (mBin f ma mb s)) : tOp r (tM X.K W ma) (tM X.K W mb) σ H Q := by
  refine tM_settle ok (PostE.bind h) fun x g1 s1 H1 v t1 k1 o1 rv nn h1 => ?_
  refine ⟨g1, s1, o1, (PostE.bind h1).mono fun y g2 s2 H2 t2 k2 o2 h2 u ru => ?_⟩
  exact hs σ g2 s2 H2 Q v u x y o2 (rv.held nn t2 k2) ru nn h2
variable {a b : Expr} {ma mb : M} {pos : Pos}
theorem me_bin {op : Operator} {r : R2} {f : S → RV → RV → Res RV} (ho : OpR X (binaryOp op) r) (hs : OpS X W r f) (ha : ME X W a ma) (hb : ME X W b mb) : ME X W (.BinOp a op b pos) (mBin f ma mb) :=
  pe_imp (pe_op ho ha hb) fun _ _ _ ⟨_, _, ok, h⟩ => tOp_of hs ok h
theorem me_cmp {op : CmpOp} {r : R2} {f : S → RV → RV → Res RV} (ho : OpR X (compareOp op) r) (hs : OpS X W r f) (ha : ME X W a ma) (hb : ME X W b mb) (hm : behindInMarks op b = false) : ME X W (.Compare a [op] [b] pos) (mBin f ma mb) :=
  pe_imp (pe_cmpR ho ha hb hm) fun _ _ _ ⟨_, _, ok, h⟩ => tOp_of hs ok h
end
end MI
/-! # Operations on values -/
namespace MI
open PySem L2

def asLst (s : S) : RV → Option (List D)
  | .d (.lst xs) => some xs
  | .at i => match s.env[i]? with
    | some (.own (.lst xs)) => some xs
    | _ => none
  | .d (.ref n) => match s.gl[n]? with
    | some (.lst xs) => some xs
    | _ => none
  | .new (.lst xs) => some xs
  | _ => none
def asDic (s : S) : RV → Option (List (Key × D))
  | .d (.dic xs) => some xs
  | .at i => match s.env[i]? with
    | some (.own (.dic xs)) => some xs
    | _ => none
  | .d (.ref n) => match s.gl[n]? with
    | some (.dic xs) => some xs
    | _ => none
  | .new (.dic xs) => some xs
  | _ => none
def asTup : RV → Option (List D)
  | .d (.tup xs) => some xs
  | _ => none
def asInt : RV → Option Int
  | .d (.int i) => some i
  | _ => none
def asStr : RV → Option Str
  | .d (.str i) => some i
  | _ => none

section
variable {K : PySem.W.Frag} {W : WX} {σ : St} {g : G} {s : S} {H : Hp}
theorem asInt_ok {v : V} {r : RV} {i : Int} (h : RepRV K g s H v r) (e : asInt r = some i) : v = .int i := by
  cases r with
  | d x => cases x <;> first | (cases e; cases (show Rep K g v _ from h); rfl) | cases e
  | «at» i => cases e
  | new o => cases e
theorem asStr_ok {v : V} {r : RV} {i : Str} (h : RepRV K g s H v r) (e : asStr r = some i) : v = .str i := by
  cases r with
  | d x => cases x <;> first | (cases e; cases (show Rep K g v _ from h); rfl) | cases e
  | «at» i => cases e
  | new o => cases e
theorem asTup_ok {v : V} {r : RV} {xs : List D} (ok : Ok K g s σ H) (h : RepRV K g s H v r) (e : asTup r = some xs) : ∃ a vs, v = .ref a ∧ SqT K H a vs ∧ RepL K g vs xs := by
  cases r with
  | d x =>
    cases x with
    | tup ys =>
      cases e
      cases (show Rep K g v _ from h) with
      | tup h1 r => exact ⟨_, _, rfl, sqT_mono ok.sub h1, r⟩
    | _ => cases e
  | «at» i => cases e
  | new o => cases e
theorem cell_sl {i : Nat} {o : MObj} (e : s.env[i]? = some (.own o)) : cellOf s (.sl i) = some o := by
  show (match s.env[i]? with | some (.own o) => some o | _ => none) = _
  rw [e]
theorem asLst_ok {v : V} {r : RV} {xs : List D} (ok : Ok K g s σ H) (h : RepRV K g s H v r) (e : asLst s r = some xs) : ∃ a vs, v = .ref a ∧ H a = some (.lst vs) ∧ RepL K g vs xs := by
  cases r with
  | d x =>
    cases x with
    | lst ys =>
      cases e
      cases (show Rep K g v _ from h) with
      | lst h1 r => exact ⟨_, _, rfl, ok.sub _ _ h1, r⟩
    | ref n =>
      cases (show Rep K g v _ from h) with
      | ref _ hn =>
        simp only [asLst] at e
        split at e
        · rename_i ys hg
          cases e
          obtain ⟨_, vs, h1, r⟩ := ok.cell (.gl n) (.lst xs) hg
          exact ⟨_, _, rfl, h1, r⟩
        · cases e
    | _ => cases e
  | «at» i =>
    simp only [asLst] at e
    split at e
    · rename_i ys hg
      cases e
      obtain ⟨_, vs, h1, r⟩ := ok.cell (.sl i) (.lst xs) (cell_sl hg)
      exact ⟨_, _, h, h1, r⟩
    · cases e
  | new o =>
    cases o with
    | lst ys =>
      cases e
      obtain ⟨a, hv, _, _, _, vs, h1, r⟩ := h
      exact ⟨a, vs, hv, h1, r⟩
    | _ => cases e
theorem asDic_ok {v : V} {r : RV} {xs : List (Key × D)} (ok : Ok K g s σ H) (h : RepRV K g s H v r) (e : asDic s r = some xs) : ∃ a vs, v = .ref a ∧ H a = some (.dK vs) ∧ RepK K g vs xs := by
  cases r with
  | d x =>
    cases x with
    | dic ys =>
      cases e
      cases (show Rep K g v _ from h) with
      | dic h1 r => exact ⟨_, _, rfl, ok.sub _ _ h1, r⟩
    | ref n =>
      cases (show Rep K g v _ from h) with
      | ref _ hn =>
        simp only [asDic] at e
        split at e
        · rename_i ys hg
          cases e
          obtain ⟨_, vs, h1, r⟩ := ok.cell (.gl n) (.dic xs) hg
          exact ⟨_, _, rfl, h1, r⟩
        · cases e
    | _ => cases e
  | «at» i =>
    simp only [asDic] at e
    split at e
    · rename_i ys hg
      cases e
      obtain ⟨_, vs, h1, r⟩ := ok.cell (.sl i) (.dic xs) (cell_sl hg)
      exact ⟨_, _, h, h1, r⟩
    · cases e
  | new o =>
    cases o with
    | dic ys =>
      cases e
      obtain ⟨a, hv, _, _, _, vs, h1, r⟩ := h
      exact ⟨a, vs, hv, h1, r⟩
    | _ => cases e
end

/-! ### arithmetic -/
/-- of two operations the one that is not stuck -/
def orF (f f' : S → RV → RV → Res RV) : S → RV → RV → Res RV := fun s a b => match f s a b with
  | .stuck => f' s a b
  | r => r
theorem OpS.or {X : Cx} {W : WX} {r r' : R2} {f f' : S → RV → RV → Res RV} (h : OpS X W r f) (h' : OpS X W r' f') : OpS X W (fun x y H Q => r x y H Q ∨ r' x y H Q) (orF f f') := by
  intro σ g s H Q x y ra rb ok rx ry nn q
  unfold orF at q
  cases e : f s ra rb with
  | ok a s' => simp only [e] at q; exact .inl (h σ g s H Q x y ra rb ok rx ry nn (by rw [e]; exact q))
  | exc c p s' => simp only [e] at q; exact .inl (h σ g s H Q x y ra rb ok rx ry nn (by rw [e]; exact q))
  | stuck => simp only [e] at q; exact .inr (h' σ g s H Q x y ra rb ok rx ry nn q)
def fI (C : Int → Int → Bool) (f : Int → Int → D) : S → RV → RV → Res RV := fun s a b => match asInt a, asInt b with
  | some i, some j => if C i j = true then .ok (.d (f i j)) s else .stuck
  | _, _ => .stuck
theorem fI_ok {X : Cx} {W : WX} {C : Int → Int → Bool} {f : Int → Int → D} {C' : Int → Int → Prop} {f' : Int → Int → V} (hc : ∀ i j, C i j = true → C' i j) (hf : ∀ K g i j, Rep K g (f' i j) (f i j)) : OpS X W (rI C' f') (fI C f) := by
  intro σ g s H Q x y ra rb ok rx ry nn q
  unfold fI at q
  cases e1 : asInt ra with
  | none => simp only [e1] at q; exact q.elim
  | some i =>
    cases e2 : asInt rb with
    | none => simp only [e1, e2] at q; exact q.elim
    | some j =>
      simp only [e1, e2] at q
      by_cases h : C i j = true
      · rw [if_pos h] at q
        exact ⟨i, j, asInt_ok rx e1, asInt_ok ry e2, hc i j h, kE_d q ok (hf _ _ i j)⟩
      · rw [if_neg h] at q; exact q.elim
theorem rI0_of {g : Int → Int → V} {x y : V} {H : Hp} {Q : VK} (h : rI (fun _ _ => True) g x y H Q) : rI0 g x y H Q := by
  obtain ⟨i, j, e1, e2, _, q⟩ := h
  exact ⟨i, j, e1, e2, q⟩
theorem OpR.imp {X : Cx} {f : Value → Value → Sem Value} {r r' : R2} (h : OpR X f r) (i : ∀ x y H Q, r' x y H Q → r x y H Q) : OpR X f r' :=
  fun pins s σ H x y v u Q I rx ry q => h pins s σ H x y v u Q I rx ry (i x y H Q q)
def cT : Int → Int → Bool := fun _ _ => true
def cMul : Int → Int → Bool := fun i j => decide (i.natAbs < 2 ^ 64) || decide (j.natAbs < 2 ^ 64) || decide (i.natAbs.log2 + j.natAbs.log2 < 1000000)
def cMod : Int → Int → Bool := fun _ j => decide (0 < j)
def cFdiv : Int → Int → Bool := fun _ j => decide (0 < j) && (decide (j < 1073741824) || decide (j.natAbs.log2 < 9000))
def cPow : Int → Int → Bool := fun i j => decide (0 ≤ j) && (decide (j ≤ 1000000) && decide (i.natAbs < 2 ^ 64))
section
variable {X : Cx} {W : WX}
def opSub := fI cT fun i j => .int (i - j)
theorem os_sub : OpS X W (rI0 fun i j => .int (i - j)) opSub := fun σ g s H Q x y ra rb ok rx ry nn q => rI0_of (fI_ok (C' := fun _ _ => True) (fun _ _ _ => trivial) (fun _ _ i j => .int _) σ g s H Q x y ra rb ok rx ry nn q)
def rMul2 : R2 := fun x y H Q => rI CMul (fun i j => .int (i * j)) x y H Q ∨ rI CMulW (fun i j => .int (i * j)) x y H Q
theorem op_mul2 : OpR X (binaryOp .Mult) rMul2 := op_mul.or op_mulW
def opMulI := fI cMul fun i j => .int (i * j)
theorem os_mulI : OpS X W rMul2 opMulI := by
  intro σ g s H Q x y ra rb ok rx ry nn q
  obtain ⟨i, j, e1, e2, hc, q⟩ := fI_ok (X := X) (C' := fun i j => cMul i j = true) (f' := fun i j => V.int (i * j)) (fun _ _ h => h) (fun _ _ i j => .int _) σ g s H Q x y ra rb ok rx ry nn q
  unfold cMul at hc
  simp only [Bool.or_eq_true, decide_eq_true_eq] at hc
  rcases hc with (h | h) | h
  · exact .inl ⟨i, j, e1, e2, .inl ⟨by omega, by omega⟩, q⟩
  · exact .inl ⟨i, j, e1, e2, .inr ⟨by omega, by omega⟩, q⟩
  · exact .inr ⟨i, j, e1, e2, h, q⟩
def opMod := fI cMod fun i j => .int (i % j)
theorem os_mod : OpS X W (rI (fun _ j => 0 < j) fun i j => .int (i % j)) opMod := fI_ok (fun _ _ h => of_decide_eq_true h) (fun _ _ i j => .int _)
def rFdiv2 : R2 := fun x y H Q => rI CDiv (fun i j => .int (i / j)) x y H Q ∨ rI CDivW (fun i j => .int (i / j)) x y H Q
theorem op_fdiv2 : OpR X (binaryOp .FloorDiv) rFdiv2 := op_fdiv.or op_fdivW
def opFdiv := fI cFdiv fun i j => .int (i / j)
theorem os_fdiv : OpS X W rFdiv2 opFdiv := by
  intro σ g s H Q x y ra rb ok rx ry nn q
  obtain ⟨i, j, e1, e2, hc, q⟩ := fI_ok (X := X) (C' := fun i j => cFdiv i j = true) (f' := fun i j => V.int (i / j)) (fun _ _ h => h) (fun _ _ i j => .int _) σ g s H Q x y ra rb ok rx ry nn q
  unfold cFdiv at hc
  simp only [Bool.or_eq_true, Bool.and_eq_true, decide_eq_true_eq] at hc
  obtain ⟨h0, h | h⟩ := hc
  · exact .inl ⟨i, j, e1, e2, ⟨h0, h⟩, q⟩
  · exact .inr ⟨i, j, e1, e2, ⟨h0, h⟩, q⟩
def opPow := fI cPow fun i j => .int (i ^ j.toNat)
theorem cPow_ok (i j : Int) (h : cPow i j = true) : CPow i j := by
  unfold cPow at h
  simp only [Bool.and_eq_true, decide_eq_true_eq] at h
  exact ⟨h.1, h.2.1, h.2.2⟩
theorem os_pow : OpS X W (rI CPow fun i j => .int (i ^ j.toNat)) opPow := fI_ok cPow_ok (fun _ _ i j => .int _)
def opShl := fI cPow fun i j => .int (i * 2 ^ j.toNat)
theorem os_shl : OpS X W (rI CPow fun i j => .int (i * 2 ^ j.toNat)) opShl := fI_ok cPow_ok (fun _ _ i j => .int _)

/-! ### a + b -/
def opAddI := fI cT fun i j => .int (i + j)
theorem os_addI : OpS X W (rI0 fun i j => .int (i + j)) opAddI := fun σ g s H Q x y ra rb ok rx ry nn q => rI0_of (fI_ok (C' := fun _ _ => True) (fun _ _ _ => trivial) (fun _ _ i j => .int _) σ g s H Q x y ra rb ok rx ry nn q)
def opAddS : S → RV → RV → Res RV := fun s a b => match asStr a, asStr b with
  | some x, some y => if x.length + y.length ≤ sizeLine then .ok (.d (.str (x ++ y))) s else .stuck
  | _, _ => .stuck
theorem os_addS : OpS X W (fun x y H Q => ∃ i j, x = .str i ∧ y = .str j ∧ i.length + j.length ≤ sizeLine ∧ Q (.str (i ++ j)) H) opAddS := by
  intro σ g s H Q x y ra rb ok rx ry nn q
  unfold opAddS at q
  split at q
  · rename_i i j e1 e2
    split at q
    · rename_i h
      exact ⟨i, j, asStr_ok rx e1, asStr_ok ry e2, h, kE_d q ok (.str _)⟩
    · exact q.elim
  · exact q.elim
def opAddT : S → RV → RV → Res RV := fun s a b => match asTup a, asTup b with
  | some x, some y => if x.length + y.length ≤ sizeLine then .ok (.d (.tup (x ++ y))) s else .stuck
  | _, _ => .stuck
theorem RepL.nil_iff {K : PySem.W.Frag} {g : G} {vs : List V} {ds : List D} (r : RepL K g vs ds) : vs = [] ↔ ds = [] := by
  cases r <;> simp
theorem os_addT : OpS X W (rCatA X.K) opAddT := by
  intro σ g s H Q x y ra rb ok rx ry nn q
  unfold opAddT at q
  split at q
  · rename_i i j e1 e2
    split at q
    · rename_i h
      obtain ⟨a, vs, rfl, h1, r1⟩ := asTup_ok ok rx e1
      obtain ⟨b, ws, rfl, h2, r2⟩ := asTup_ok ok ry e2
      refine ⟨a, b, vs, ws, rfl, rfl, h1, h2, by rw [r1.length, r2.length]; exact h, fun z => ?_, fun z z' => ?_, fun z z' p hp => kE_tup q ok hp (r1.append r2)⟩
      · rw [(RepL.nil_iff r1).mp z, List.nil_append] at q
        cases rb with
        | d w =>
          cases w <;> first | cases e2
          exact kE_d q ok ry
        | «at» _ => cases e2
        | new _ => cases e2
      · rw [(RepL.nil_iff r2).mp z', List.append_nil] at q
        cases ra with
        | d w =>
          cases w <;> first | cases e1
          exact kE_d q ok rx
        | «at» _ => cases e1
        | new _ => cases e1
    · exact q.elim
  · exact q.elim
def opAddL : S → RV → RV → Res RV := fun s a b => match asLst s a, asLst s b with
  | some x, some y => if x.length + y.length ≤ sizeLine then .ok (.new (.lst (x ++ y))) s else .stuck
  | _, _ => .stuck
theorem os_addL : OpS X W rCat opAddL := by
  intro σ g s H Q x y ra rb ok rx ry nn q
  unfold opAddL at q
  split at q
  · rename_i i j e1 e2
    split at q
    · rename_i h
      obtain ⟨a, vs, rfl, h1, r1⟩ := asLst_ok ok rx e1
      obtain ⟨b, ws, rfl, h2, r2⟩ := asLst_ok ok ry e2
      exact ⟨a, b, vs, ws, rfl, rfl, h1, h2, by rw [r1.length, r2.length]; exact h, fun p hp => kE_new q ok hp ⟨_, upd_same, r1.append r2⟩⟩
    · exact q.elim
  · exact q.elim
def opAdd := orF opAddI (orF opAddS (orF opAddT opAddL))
theorem op_addA : OpR X (binaryOp .Add) (fun x y H Q => rI0 (fun i j => .int (i + j)) x y H Q ∨ (∃ i j, x = .str i ∧ y = .str j ∧ i.length + j.length ≤ sizeLine ∧ Q (.str (i ++ j)) H) ∨ rCatA X.K x y H Q ∨ rCat x y H Q) :=
  op_add.or (op_add_str.or (op_catA.or op_cat))
theorem os_add : OpS X W (fun x y H Q => rI0 (fun i j => .int (i + j)) x y H Q ∨ (∃ i j, x = .str i ∧ y = .str j ∧ i.length + j.length ≤ sizeLine ∧ Q (.str (i ++ j)) H) ∨ rCatA X.K x y H Q ∨ rCat x y H Q) opAdd :=
  os_addI.or (os_addS.or (os_addT.or os_addL))
variable {a b : Expr} {ma mb : M} {pos : Pos}
theorem me_add (ha : ME X W a ma) (hb : ME X W b mb) : ME X W (.BinOp a .Add b pos) (mBin opAdd ma mb) := me_bin op_addA os_add ha hb
theorem me_sub (ha : ME X W a ma) (hb : ME X W b mb) : ME X W (.BinOp a .Sub b pos) (mBin opSub ma mb) := me_bin op_sub os_sub ha hb
theorem me_mod (ha : ME X W a ma) (hb : ME X W b mb) : ME X W (.BinOp a .Mod b pos) (mBin opMod ma mb) := me_bin op_mod os_mod ha hb
theorem me_fdiv (ha : ME X W a ma) (hb : ME X W b mb) : ME X W (.BinOp a .FloorDiv b pos) (mBin opFdiv ma mb) := me_bin op_fdiv2 os_fdiv ha hb
theorem me_pow (ha : ME X W a ma) (hb : ME X W b mb) : ME X W (.BinOp a .Pow b pos) (mBin opPow ma mb) := me_bin op_pow os_pow ha hb
theorem me_shl (ha : ME X W a ma) (hb : ME X W b mb) : ME X W (.BinOp a .LShift b pos) (mBin opShl ma mb) := me_bin op_shl os_shl ha hb
end
end MI
/-! # Comparisons -/
namespace MI
open PySem L2

/-- what a value is as data, for the moment -/
def asD (s : S) : RV → Option D
  | .d (.ref n) => match s.gl[n]? with
    | some o => frzO o
    | none => none
  | .d x => some x
  | .at i => match s.env[i]? with
    | some (.own o) => frzO o
    | _ => none
  | .new o => frzO o
section
variable {K : PySem.W.Frag} {W : WX} {σ : St} {g : G} {s : S} {H : Hp}
theorem frz_le' {a : Addr} {u : HO} (sb : Sub g.F H) (h : H a = some u) : GLe g (g.frz a u) ∧ Sub (g.frz a u).F H := by
  refine ⟨⟨fun b w e => ?_, Nat.le_refl _, fun _ _ => rfl⟩, fun b w e => ?_⟩
  · show upd g.F a u b = _
    by_cases z : b = a
    · subst z; rw [upd_same, ← h]; exact sb _ _ e
    · rw [upd_ne z]; exact e
  · have e' : upd g.F a u b = some w := e
    by_cases z : b = a
    · subst z; rw [upd_same] at e'; rw [h]; exact e'
    · rw [upd_ne z] at e'; exact sb _ _ e'
theorem frzO_rep' {a : Addr} {o : MObj} {d : D} (sb : Sub g.F H) (e : frzO o = some d) (r : ObjRep K g H a o) :
    ∃ g', GLe g g' ∧ Sub g'.F H ∧ Rep K g' (.ref a) d := by
  cases o with
  | lst xs =>
    cases e
    obtain ⟨vs, h, r⟩ := r
    obtain ⟨l, sb'⟩ := frz_le' sb h
    exact ⟨_, l, sb', .lst upd_same (r.mono l)⟩
  | dic xs =>
    cases e
    obtain ⟨vs, h, r⟩ := r
    obtain ⟨l, sb'⟩ := frz_le' sb h
    exact ⟨_, l, sb', .dic upd_same (r.mono l)⟩
  | ins c fs => cases e
/-- .. over any ghost behind g whose F stands in H -/
theorem asD_ok {g0 : G} {v : V} {r : RV} {d : D} (ok : Ok K g0 s σ H) (l0 : GLe g0 g) (sb : Sub g.F H) (h : RepRV K g0 s H v r) (e : asD s r = some d) : ∃ g', GLe g g' ∧ Sub g'.F H ∧ Rep K g' v d := by
  cases r with
  | d x =>
    by_cases hx : ∃ n, x = .ref n
    · obtain ⟨n, rfl⟩ := hx
      simp only [asD] at e
      split at e
      · rename_i o hg
        obtain ⟨_, q⟩ := ok.cell (.gl n) o hg
        cases (show Rep K g0 v _ from h) with
        | ref _ hn => exact frzO_rep' sb e (q.mono l0 rfl)
      · cases e
    · have e' : asD s (.d x) = some x := by cases x <;> first | rfl | exact absurd ⟨_, rfl⟩ hx
      rw [e'] at e
      cases e
      exact ⟨g, GLe.refl _, sb, Rep.mono l0 h⟩
  | «at» i =>
    simp only [asD] at e
    split at e
    · rename_i o hg
      have hv : v = .ref (g0.adr (.sl i)) := h
      subst hv
      obtain ⟨_, q⟩ := ok.cell (.sl i) o (cell_sl hg)
      exact frzO_rep' sb e (q.mono l0 rfl)
    · cases e
  | new o =>
    obtain ⟨a, rfl, _, _, _, q⟩ := h
    exact frzO_rep' sb e (q.mono l0 rfl)
end

/-! ### == -/
def eqAll (f : D → D → Option Bool) : List D → List D → Option Bool
  | [], [] => some true
  | x :: xs, y :: ys => match f x y, eqAll f xs ys with
    | some a, some b => some (a && b)
    | _, _ => none
  | [], _ :: _ => some false
  | _ :: _, [] => some false
def eqS : D → D → Option Bool
  | .non, .non => some true
  | .non, .bl _ => some false
  | .non, .int _ => some false
  | .non, .str _ => some false
  | .bl _, .non => some false
  | .bl a, .bl b => some (a == b)
  | .bl a, .int j => some ((if a then 1 else 0) == j)
  | .bl _, .str _ => some false
  | .int _, .non => some false
  | .int i, .bl b => some (i == (if b then 1 else 0))
  | .int i, .int j => some (i == j)
  | .int _, .str _ => some false
  | .str _, .non => some false
  | .str _, .bl _ => some false
  | .str _, .int _ => some false
  | .str x, .str y => some (x == y)
  | _, _ => none
/-- Python's == of data nested below n; none: not told -/
def eqvO : Nat → D → D → Option Bool
  | 0, x, y => eqS x y
  | n + 1, .tup xs, .tup ys => eqAll (eqvO n) xs ys
  | n + 1, .lst xs, .lst ys => eqAll (eqvO n) xs ys
  | _ + 1, .tup _, .lst _ => some false
  | _ + 1, .lst _, .tup _ => some false
  | _ + 1, .tup _, .non => some false
  | _ + 1, .tup _, .bl _ => some false
  | _ + 1, .tup _, .int _ => some false
  | _ + 1, .tup _, .str _ => some false
  | _ + 1, .lst _, .non => some false
  | _ + 1, .lst _, .bl _ => some false
  | _ + 1, .lst _, .int _ => some false
  | _ + 1, .lst _, .str _ => some false
  | _ + 1, .non, .tup _ => some false
  | _ + 1, .bl _, .tup _ => some false
  | _ + 1, .int _, .tup _ => some false
  | _ + 1, .str _, .tup _ => some false
  | _ + 1, .non, .lst _ => some false
  | _ + 1, .bl _, .lst _ => some false
  | _ + 1, .int _, .lst _ => some false
  | _ + 1, .str _, .lst _ => some false
  | _ + 1, x, y => eqS x y

section
variable {X : Cx} {pins : List (Addr × Obj)} {σ : St} {g : G} {H : Hp} {s : Shared}
theorem tup_not_lst (I : Inv X pins σ H s) {a : Addr} {vs ws : List V} (h : SqT X.K H a vs) (h' : H a = some (.lst ws)) : False := by
  rcases h with h | ⟨o, its, n, hk, _⟩
  · rcases h with h | ⟨o, h⟩ <;> (rw [h'] at h; cases h)
  · obtain ⟨_, z⟩ := I.bs a o (I.mod.kin a o hk)
    rw [h'] at z; cases z
/-- both answers: RcAt (==) and EqAt (in a comparison of parts) -/
def EqT (X : Cx) (s : Shared) (A : Around) (v u : Value) (b : Bool) : Prop := SeqAt.RcAt A s v u b ∧ SeqAt.EqAt A s v u b ∧ SeqAt.RcNeAt A s v u (!b)
theorem eqS_at {A : Around} : ∀ {x y : D} {b : Bool} {vx vy : V} {v u : Value}, eqS x y = some b → Rep X.K g vx x → Rep X.K g vy y → RelV vx v → RelV vy u → EqT X s A v u b
  | .non, .non, _, _, _, _, _, e, .non, .non, r1, r2 => by
    cases e
    cases r1
    cases r2
    exact ⟨SeqAt.RcAt.none_none, SeqAt.EqAt.same _, SeqAt.RcNeAt.none_none⟩
  | .non, .bl q, _, _, _, _, _, e, .non, .bl _, r1, r2 => by
    cases e
    cases r1
    cases r2
    exact ⟨SeqAt.RcAt.none_bool _, SeqAt.EqAt.none_bool _, SeqAt.RcNeAt.none_bool _⟩
  | .non, .int q, _, _, _, _, _, e, .non, .int _, r1, r2 => by
    cases e
    cases r1
    obtain ⟨t2, rfl⟩ := r2
    exact ⟨SeqAt.RcAt.none_int _ _, SeqAt.EqAt.none_int _ _, SeqAt.RcNeAt.none_int _ _⟩
  | .non, .str q, _, _, _, _, _, e, .non, .str _, r1, r2 => by
    cases e
    cases r1
    obtain ⟨t2, rfl⟩ := r2
    exact ⟨SeqAt.RcAt.none_str _ _, SeqAt.EqAt.none_str _ _, SeqAt.RcNeAt.none_str _ _⟩
  | .bl p, .non, _, _, _, _, _, e, .bl _, .non, r1, r2 => by
    cases e
    cases r1
    cases r2
    exact ⟨SeqAt.RcAt.bool_none _, SeqAt.EqAt.bool_none _, SeqAt.RcNeAt.bool_none _⟩
  | .bl p, .bl q, _, _, _, _, _, e, .bl _, .bl _, r1, r2 => by
    cases e
    cases r1
    cases r2
    exact ⟨SeqAt.RcAt.bool_bool _ _, SeqAt.EqAt.bool_bool _ _, SeqAt.RcNeAt.bool_bool _ _⟩
  | .bl p, .int q, _, _, _, _, _, e, .bl _, .int _, r1, r2 => by
    cases e
    cases r1
    obtain ⟨t2, rfl⟩ := r2
    exact ⟨SeqAt.RcAt.bool_int _ _ _, SeqAt.EqAt.bool_int _ _ _, SeqAt.RcNeAt.bool_int _ _ _⟩
  | .bl p, .str q, _, _, _, _, _, e, .bl _, .str _, r1, r2 => by
    cases e
    cases r1
    obtain ⟨t2, rfl⟩ := r2
    exact ⟨SeqAt.RcAt.bool_str _ _ _, SeqAt.EqAt.bool_str _ _ _, SeqAt.RcNeAt.bool_str _ _ _⟩
  | .int p, .non, _, _, _, _, _, e, .int _, .non, r1, r2 => by
    cases e
    obtain ⟨t, rfl⟩ := r1
    cases r2
    exact ⟨SeqAt.RcAt.int_none _ _, SeqAt.EqAt.int_none _ _, SeqAt.RcNeAt.int_none _ _⟩
  | .int p, .bl q, _, _, _, _, _, e, .int _, .bl _, r1, r2 => by
    cases e
    obtain ⟨t, rfl⟩ := r1
    cases r2
    exact ⟨SeqAt.RcAt.int_bool _ _ _, SeqAt.EqAt.int_bool _ _ _, SeqAt.RcNeAt.int_bool _ _ _⟩
  | .int p, .int q, _, _, _, _, _, e, .int _, .int _, r1, r2 => by
    cases e
    obtain ⟨t, rfl⟩ := r1
    obtain ⟨t2, rfl⟩ := r2
    exact ⟨SeqAt.RcAt.int_int _ _ _ _, SeqAt.EqAt.int_int _ _ _ _, SeqAt.RcNeAt.int_int _ _ _ _⟩
  | .int p, .str q, _, _, _, _, _, e, .int _, .str _, r1, r2 => by
    cases e
    obtain ⟨t, rfl⟩ := r1
    obtain ⟨t2, rfl⟩ := r2
    exact ⟨SeqAt.RcAt.int_str _ _ _ _, SeqAt.EqAt.int_str _ _ _ _, SeqAt.RcNeAt.int_str _ _ _ _⟩
  | .str p, .non, _, _, _, _, _, e, .str _, .non, r1, r2 => by
    cases e
    obtain ⟨t, rfl⟩ := r1
    cases r2
    exact ⟨SeqAt.RcAt.str_none _ _, SeqAt.EqAt.str_none _ _, SeqAt.RcNeAt.str_none _ _⟩
  | .str p, .bl q, _, _, _, _, _, e, .str _, .bl _, r1, r2 => by
    cases e
    obtain ⟨t, rfl⟩ := r1
    cases r2
    exact ⟨SeqAt.RcAt.str_bool _ _ _, SeqAt.EqAt.str_bool _ _ _, SeqAt.RcNeAt.str_bool _ _ _⟩
  | .str p, .int q, _, _, _, _, _, e, .str _, .int _, r1, r2 => by
    cases e
    obtain ⟨t, rfl⟩ := r1
    obtain ⟨t2, rfl⟩ := r2
    exact ⟨SeqAt.RcAt.str_int _ _ _ _, SeqAt.EqAt.str_int _ _ _ _, SeqAt.RcNeAt.str_int _ _ _ _⟩
  | .str p, .str q, _, _, _, _, _, e, .str _, .str _, r1, r2 => by
    cases e
    obtain ⟨t, rfl⟩ := r1
    obtain ⟨t2, rfl⟩ := r2
    exact ⟨SeqAt.RcAt.str_str _ _ _ _, SeqAt.EqAt.str_str _ _ _ _, SeqAt.RcNeAt.str_str _ _ _ _⟩
  | .tup _, _, _, _, _, _, _, e, _, _, r1, r2 => by cases e
  | .lst _, _, _, _, _, _, _, e, _, _, r1, r2 => by cases e
  | .dic _, _, _, _, _, _, _, e, _, _, r1, r2 => by cases e
  | .scr _, _, _, _, _, _, _, e, _, _, r1, r2 => by cases e
  | .ref _, _, _, _, _, _, _, e, _, _, r1, r2 => by cases e
  | .non, .tup _, _, _, _, _, _, e, _, _, r1, r2 => by cases e
  | .bl p, .tup _, _, _, _, _, _, e, _, _, r1, r2 => by cases e
  | .int p, .tup _, _, _, _, _, _, e, _, _, r1, r2 => by cases e
  | .str p, .tup _, _, _, _, _, _, e, _, _, r1, r2 => by cases e
  | .non, .lst _, _, _, _, _, _, e, _, _, r1, r2 => by cases e
  | .bl p, .lst _, _, _, _, _, _, e, _, _, r1, r2 => by cases e
  | .int p, .lst _, _, _, _, _, _, e, _, _, r1, r2 => by cases e
  | .str p, .lst _, _, _, _, _, _, e, _, _, r1, r2 => by cases e
  | .non, .dic _, _, _, _, _, _, e, _, _, r1, r2 => by cases e
  | .bl p, .dic _, _, _, _, _, _, e, _, _, r1, r2 => by cases e
  | .int p, .dic _, _, _, _, _, _, e, _, _, r1, r2 => by cases e
  | .str p, .dic _, _, _, _, _, _, e, _, _, r1, r2 => by cases e
  | .non, .ref _, _, _, _, _, _, e, _, _, r1, r2 => by cases e
  | .non, .scr _, _, _, _, _, _, e, _, _, r1, r2 => by cases e
  | .bl p, .ref _, _, _, _, _, _, e, _, _, r1, r2 => by cases e
  | .bl p, .scr _, _, _, _, _, _, e, _, _, r1, r2 => by cases e
  | .int p, .ref _, _, _, _, _, _, e, _, _, r1, r2 => by cases e
  | .int p, .scr _, _, _, _, _, _, e, _, _, r1, r2 => by cases e
  | .str p, .ref _, _, _, _, _, _, e, _, _, r1, r2 => by cases e
  | .str p, .scr _, _, _, _, _, _, e, _, _, r1, r2 => by cases e
/-- the items' answers, by places -/
theorem eqAll_at {f : D → D → Option Bool} {P : Value → Value → Bool → Prop} {g : G}
    (ih : ∀ x y b vx vy v u, f x y = some b → Rep X.K g vx x → Rep X.K g vy y → RelV vx v → RelV vy u → P v u b) :
    ∀ {xs ys : List D} {b : Bool} {vs ws : List V} {us zs : List Value}, eqAll f xs ys = some b → RepL X.K g vs xs → RepL X.K g ws ys → Vals vs us → Vals ws zs →
      ∃ e : Nat → Bool, (∀ j (h1 : j < us.length) (h2 : j < zs.length), P us[j] zs[j] (e j)) ∧ b = ((List.range (min us.length zs.length)).all e && us.length == zs.length)
  | [], [], b, _, _, _, _, h, .nil, .nil, .nil, .nil => by
    cases h
    exact ⟨fun _ => true, fun j h1 => absurd h1 (Nat.not_lt_zero _), rfl⟩
  | [], _ :: _, b, _, _, _, _, h, .nil, .cons _ _, .nil, .cons _ _ => by
    cases h
    exact ⟨fun _ => true, fun j h1 => absurd h1 (Nat.not_lt_zero _), by simp⟩
  | _ :: _, [], b, _, _, _, _, h, .cons _ _, .nil, .cons _ _, .nil => by
    cases h
    exact ⟨fun _ => true, fun j _ h1 => absurd h1 (Nat.not_lt_zero _), by simp⟩
  | x :: xs, y :: ys, b, _, _, _, _, h, .cons a1 b1, .cons a2 b2, .cons c1 d1, .cons c2 d2 => by
    simp only [eqAll] at h
    split at h
    · rename_i p q e1 e2
      cases h
      obtain ⟨e, he, hb⟩ := eqAll_at ih e2 b1 b2 d1 d2
      refine ⟨fun j => match j with | 0 => p | j + 1 => e j, fun j h1 h2 => ?_, ?_⟩
      · cases j with
        | zero => exact ih _ _ _ _ _ _ _ e1 a1 a2 c1 c2
        | succ j => exact he j (Nat.lt_of_succ_lt_succ h1) (Nat.lt_of_succ_lt_succ h2)
      · rw [hb, List.length_cons, List.length_cons, Nat.succ_min_succ, List.range_succ_eq_map, List.all_cons, List.all_map, ← Bool.and_assoc]
        congr 1
        simp
    · cases h
theorem same_true (I : Inv X pins σ H s) (sb : Sub g.F H) : ∀ (n : Nat) {x y : D} {b : Bool} {v : V}, eqvO n x y = some b → Rep X.K g v x → Rep X.K g v y → b = true := by
  have base : ∀ {x y : D} {b : Bool} {v : V}, eqS x y = some b → Rep X.K g v x → Rep X.K g v y → b = true := by
    intro x y b v e rx ry
    cases x <;> cases y <;> first
      | (cases e; done)
      | (simp only [eqS, Option.some.injEq] at e
         subst e
         cases rx <;> cases ry <;> simp)
  have all : ∀ {f : D → D → Option Bool}, (∀ {x y : D} {b : Bool} {v : V}, f x y = some b → Rep X.K g v x → Rep X.K g v y → b = true) →
      ∀ {xs ys : List D} {b : Bool} {vs : List V}, eqAll f xs ys = some b → RepL X.K g vs xs → RepL X.K g vs ys → b = true := by
    intro f ih xs
    induction xs with
    | nil =>
      intro ys b vs e r1 r2
      cases r1; cases r2; cases e; rfl
    | cons x xs ihx =>
      intro ys b vs e r1 r2
      cases r1 with
      | cons a1 b1 =>
        cases r2 with
        | cons a2 b2 =>
          simp only [eqAll] at e
          split at e
          · rename_i p q e1 e2
            cases e
            rw [ih e1 a1 a2, ihx e2 b1 b2]; rfl
          · cases e
  intro n
  induction n with
  | zero => exact base
  | succ n ih =>
    intro x y b v e rx ry
    cases x with
    | tup xs =>
      cases y with
      | tup ys =>
        cases rx with
        | tup h1 r1 =>
          cases ry with
          | tup h2 r2 =>
            have z := I.tuple_inj (sqT_mono sb h1) (sqT_mono sb h2)
            subst z
            exact all ih (show eqAll (eqvO n) _ _ = some b from e) r1 r2
      | lst ys =>
        cases rx with
        | tup h1 r1 =>
          cases ry with
          | lst h2 r2 => exact (tup_not_lst I (sqT_mono sb h1) (sb _ _ h2)).elim
      | _ => first | (cases e; done) | (cases rx; cases ry)
    | lst xs =>
      cases y with
      | lst ys =>
        cases rx with
        | lst h1 r1 =>
          cases ry with
          | lst h2 r2 =>
            have z := (sb _ _ h1).symm.trans (sb _ _ h2)
            cases z
            exact all ih (show eqAll (eqvO n) _ _ = some b from e) r1 r2
      | tup ys =>
        cases rx with
        | lst h1 r1 =>
          cases ry with
          | tup h2 r2 => exact (tup_not_lst I (sqT_mono sb h2) (sb _ _ h1)).elim
      | _ => first | (cases e; done) | (cases rx; cases ry)
    | _ => cases y <;> first | (cases e; done) | exact base e rx ry | (cases rx; cases ry)
theorem eqvO_at (I : Inv X pins σ H s) (sb : Sub g.F H) : ∀ (n : Nat) {x y : D} {b : Bool} {vx vy : V} {v u : Value} {A : Around}, A.units + n < cLine →
    eqvO n x y = some b → Rep X.K g vx x → Rep X.K g vy y → RelV vx v → RelV vy u → EqT X s A v u b := by
  intro n
  induction n with
  | zero => intro x y b vx vy v u A hu e rx ry r1 r2; exact eqS_at e rx ry r1 r2
  | succ n ih =>
    intro x y b vx vy v u A hu e rx ry r1 r2
    have hu1 : A.units < cLine := by omega
    have refs : ∀ {l m : Addr} {k : Bool}, (SeqAt.RcAt A s (.ref l) (.ref m) k ∧ SeqAt.RcNeAt A s (.ref l) (.ref m) (!k)) → (l = m → k = true) → EqT X s A (.ref l) (.ref m) k := fun {l m k} ⟨h, hn⟩ h' => by
      refine ⟨h, ?_, hn⟩
      by_cases z : l = m
      · rw [h' z, z]; exact SeqAt.EqAt.same _
      · exact SeqAt.EqAt.of_refs z h
    have step : ∀ {xs ys : List D} {vs ws : List V} {us zs : List Value} {b : Bool}, eqAll (eqvO n) xs ys = some b → RepL X.K g vs xs → RepL X.K g ws ys → Vals vs us → Vals ws zs →
        ∃ e : Nat → Bool, (∀ j (h1 : j < us.length) (h2 : j < zs.length), SeqAt.EqAt A.in1 s us[j] zs[j] (e j)) ∧ b = ((List.range (min us.length zs.length)).all e && us.length == zs.length) :=
      fun he q1 q2 q3 q4 => eqAll_at (P := fun v u b => SeqAt.EqAt A.in1 s v u b) (fun x y b vx vy v u e a1 a2 a3 a4 => (ih (A := A.in1) (by show A.units + 1 + n < cLine; omega) e a1 a2 a3 a4).2.1) he q1 q2 q3 q4
    have sT : ∀ {xs ys : List D}, x = .tup xs → y = .tup ys → EqT X s A v u b := by
      rintro xs ys rfl rfl
      have sm : ∀ {v : V}, Rep X.K g v (.tup xs) → Rep X.K g v (.tup ys) → b = true := fun h1 h2 => same_true I sb (n + 1) e h1 h2
      cases rx with
      | tup h1 q1 =>
        cases ry with
        | tup h2 q2 =>
          cases (show v = Value.ref _ from r1)
          cases (show u = Value.ref _ from r2)
          obtain ⟨us, rv, t1, _⟩ := I.tuple (sqT_mono sb h1)
          obtain ⟨zs, rz, t2, _⟩ := I.tuple (sqT_mono sb h2)
          obtain ⟨f, hf, hb⟩ := step e q1 q2 rv rz
          refine refs ?_ fun z => ?_
          · rw [hb]
            have hj : ∀ j (h1 : j < us.toArray.size) (h2 : j < zs.toArray.size), SeqAt.EqAt A.in1 s us.toArray[j] zs.toArray[j] (f j) := fun j h1 h2 => by
              have := hf j (by simpa using h1) (by simpa using h2)
              simpa using this
            have k := SeqAt.RcAt.tuples (e := f) t1 t2 hu1 hj
            have kn := SeqAt.RcNeAt.tuples (e := f) t1 t2 hu1 hj
            exact ⟨by simpa using k, by simpa using kn⟩
          · subst z
            exact sm (.tup h1 q1) (.tup h2 q2)
    have sL : ∀ {xs ys : List D}, x = .lst xs → y = .lst ys → EqT X s A v u b := by
      rintro xs ys rfl rfl
      have sm : ∀ {v : V}, Rep X.K g v (.lst xs) → Rep X.K g v (.lst ys) → b = true := fun h1 h2 => same_true I sb (n + 1) e h1 h2
      cases rx with
      | lst h1 q1 =>
        cases ry with
        | lst h2 q2 =>
          cases (show v = Value.ref _ from r1)
          cases (show u = Value.ref _ from r2)
          obtain ⟨us, rv, t1, _⟩ := I.list (.of (sb _ _ h1))
          obtain ⟨zs, rz, t2, _⟩ := I.list (.of (sb _ _ h2))
          obtain ⟨f, hf, hb⟩ := step e q1 q2 rv rz
          refine refs ?_ fun z => ?_
          · by_cases hl : us.length = zs.length
            · have hj : ∀ j (h1 : j < us.toArray.size) (h2 : j < zs.toArray.size), SeqAt.EqAt A.in1 s us.toArray[j] zs.toArray[j] (f j) := fun j h1 h2 => by
                have := hf j (by simpa using h1) (by simpa using h2)
                simpa using this
              have k := SeqAt.RcAt.lists (e := f) t1.isList t2.isList (by simpa using hl) hu1 hj
              have kn := SeqAt.RcNeAt.lists (e := f) t1.isList t2.isList (by simpa using hl) hu1 hj
              have : b = (List.range us.toArray.size).all f := by
                rw [hb, ← hl, Nat.min_self]; simp
              rw [this]; exact ⟨k, kn⟩
            · have : b = false := by rw [hb]; simp [hl]
              rw [this]
              exact ⟨SeqAt.RcAt.lists_lengths t1.isList t2.isList (by simpa using hl) hu1, SeqAt.RcNeAt.lists_lengths t1.isList t2.isList (by simpa using hl) hu1⟩
          · subst z
            exact sm (.lst h1 q1) (.lst h2 q2)
    -- the mixed ones
    have tupO : ∀ {xs : List D} {w : V} {c : Value}, Rep X.K g w (.tup xs) → RelV w c → ∃ a its, c = .ref a ∧ s.heap.IsTuple a its := by
      intro xs w c r rc
      cases r with
      | tup h q =>
        cases (show c = Value.ref _ from rc)
        obtain ⟨us, _, t, _⟩ := I.tuple (sqT_mono sb h)
        exact ⟨_, _, rfl, t⟩
    have lstO : ∀ {xs : List D} {w : V} {c : Value}, Rep X.K g w (.lst xs) → RelV w c → ∃ a its, c = .ref a ∧ s.heap.IsList a its := by
      intro xs w c r rc
      cases r with
      | lst h q =>
        cases (show c = Value.ref _ from rc)
        obtain ⟨us, _, t, _⟩ := I.list (.of (sb _ _ h))
        exact ⟨_, _, rfl, t.isList⟩
    cases x <;> cases y <;> first
      | (cases e; done)
      | exact eqS_at e rx ry r1 r2
      | exact sT rfl rfl
      | exact sL rfl rfl
      | (cases e
         obtain ⟨a, i1, rfl, t1⟩ := tupO rx r1
         obtain ⟨b, i2, rfl, t2⟩ := lstO ry r2
         exact ⟨SeqAt.RcAt.tuple_list t1 t2 hu1, SeqAt.EqAt.tuple_list t1 t2 hu1, SeqAt.RcNeAt.tuple_list t1 t2 hu1⟩)
      | (cases e
         obtain ⟨a, i1, rfl, t1⟩ := lstO rx r1
         obtain ⟨b, i2, rfl, t2⟩ := tupO ry r2
         exact ⟨SeqAt.RcAt.list_tuple t1 t2 hu1, SeqAt.EqAt.list_tuple t1 t2 hu1, SeqAt.RcNeAt.list_tuple t1 t2 hu1⟩)
      | (cases e
         obtain ⟨a, i1, rfl, t1⟩ := tupO rx r1
         cases ry
         first
           | (cases r2; first | exact ⟨SeqAt.RcAt.tuple_none t1 hu1, SeqAt.EqAt.tuple_none t1 hu1, SeqAt.RcNeAt.tuple_none t1 hu1⟩ | exact ⟨SeqAt.RcAt.tuple_bool _ t1 hu1, SeqAt.EqAt.tuple_bool _ t1 hu1, SeqAt.RcNeAt.tuple_bool _ t1 hu1⟩)
           | (obtain ⟨t, rfl⟩ := r2; first | exact ⟨SeqAt.RcAt.tuple_int _ _ t1 hu1, SeqAt.EqAt.tuple_int _ _ t1 hu1, SeqAt.RcNeAt.tuple_int _ _ t1 hu1⟩ | exact ⟨SeqAt.RcAt.tuple_str _ _ t1 hu1, SeqAt.EqAt.tuple_str _ _ t1 hu1, SeqAt.RcNeAt.tuple_str _ _ t1 hu1⟩))
      | (cases e
         obtain ⟨a, i1, rfl, t1⟩ := lstO rx r1
         cases ry
         first
           | (cases r2; first | exact ⟨SeqAt.RcAt.list_none t1 hu1, SeqAt.EqAt.list_none t1 hu1, SeqAt.RcNeAt.list_none t1 hu1⟩ | exact ⟨SeqAt.RcAt.list_bool _ t1 hu1, SeqAt.EqAt.list_bool _ t1 hu1, SeqAt.RcNeAt.list_bool _ t1 hu1⟩)
           | (obtain ⟨t, rfl⟩ := r2; first | exact ⟨SeqAt.RcAt.list_int _ _ t1 hu1, SeqAt.EqAt.list_int _ _ t1 hu1, SeqAt.RcNeAt.list_int _ _ t1 hu1⟩ | exact ⟨SeqAt.RcAt.list_str _ _ t1 hu1, SeqAt.EqAt.list_str _ _ t1 hu1, SeqAt.RcNeAt.list_str _ _ t1 hu1⟩))
      | (cases e
         obtain ⟨a, i1, rfl, t1⟩ := tupO ry r2
         cases rx
         first
           | (cases r1; first | exact ⟨SeqAt.RcAt.none_tuple t1 hu1, SeqAt.EqAt.none_tuple t1 hu1, SeqAt.RcNeAt.none_tuple t1 hu1⟩ | exact ⟨SeqAt.RcAt.bool_tuple _ t1 hu1, SeqAt.EqAt.bool_tuple _ t1 hu1, SeqAt.RcNeAt.bool_tuple _ t1 hu1⟩)
           | (obtain ⟨t, rfl⟩ := r1; first | exact ⟨SeqAt.RcAt.int_tuple _ _ t1 hu1, SeqAt.EqAt.int_tuple _ _ t1 hu1, SeqAt.RcNeAt.int_tuple _ _ t1 hu1⟩ | exact ⟨SeqAt.RcAt.str_tuple _ _ t1 hu1, SeqAt.EqAt.str_tuple _ _ t1 hu1, SeqAt.RcNeAt.str_tuple _ _ t1 hu1⟩))
      | (cases e
         obtain ⟨a, i1, rfl, t1⟩ := lstO ry r2
         cases rx
         first
           | (cases r1; first | exact ⟨SeqAt.RcAt.none_list t1 hu1, SeqAt.EqAt.none_list t1 hu1, SeqAt.RcNeAt.none_list t1 hu1⟩ | exact ⟨SeqAt.RcAt.bool_list _ t1 hu1, SeqAt.EqAt.bool_list _ t1 hu1, SeqAt.RcNeAt.bool_list _ t1 hu1⟩)
           | (obtain ⟨t, rfl⟩ := r1; first | exact ⟨SeqAt.RcAt.int_list _ _ t1 hu1, SeqAt.EqAt.int_list _ _ t1 hu1, SeqAt.RcNeAt.int_list _ _ t1 hu1⟩ | exact ⟨SeqAt.RcAt.str_list _ _ t1 hu1, SeqAt.EqAt.str_list _ _ t1 hu1, SeqAt.RcNeAt.str_list _ _ t1 hu1⟩))
end

section
variable {X : Cx} {W : WX}
def rEqM (K : PySem.W.Frag) (neg : Bool) : R2 := fun x y H Q => ∃ g dx dy b, Sub g.F H ∧ Rep K g x dx ∧ Rep K g y dy ∧ eqvO 40 dx dy = some b ∧ Q (.bl (b != neg)) H
theorem op_neM (hu : X.A.units + 64 < cLine) : OpR X (compareOp .NotEq) (rEqM X.K true) := by
  intro pins s σ H x y v u Q I rx ry ⟨g, dx, dy, b, sb, h1, h2, e, q⟩
  refine (eqvO_at I sb 40 (A := X.A) (by omega) e h1 h2 rx ry).2.2 X.prog X.w X.xe _ ⟨.bl (!b), H, I, rfl, ?_⟩
  have : (b != true) = !b := by cases b <;> rfl
  rw [this] at q; exact q
theorem op_eqM (hu : X.A.units + 64 < cLine) : OpR X (compareOp .Eq) (rEqM X.K false) := by
  intro pins s σ H x y v u Q I rx ry ⟨g, dx, dy, b, sb, h1, h2, e, q⟩
  refine (eqvO_at I sb 40 (A := X.A) (by omega) e h1 h2 rx ry).1 X.prog X.w X.xe _ ⟨.bl b, H, I, rfl, ?_⟩
  have : (b != false) = b := by cases b <;> rfl
  rw [this] at q; exact q
end
end MI
/-! # Comparisons as expressions and tests; and, or, not; a if t else b -/
namespace MI
open PySem L2

section
variable {X : Cx} {W : WX}
def opEq (neg : Bool) : S → RV → RV → Res RV := fun s a b => match asD s a, asD s b with
  | some x, some y => match eqvO 40 x y with
    | some r => .ok (.d (.bl (r != neg))) s
    | none => .stuck
  | _, _ => .stuck
theorem os_eq {neg : Bool} : OpS X W (rEqM X.K neg) (opEq neg) := by
  intro σ g s H Q x y ra rb ok rx ry nn q
  unfold opEq at q
  split at q
  · rename_i dx dy e1 e2
    split at q
    · rename_i r e
      obtain ⟨g1, l1, sb1, r1⟩ := asD_ok ok (GLe.refl g) ok.sub rx e1
      obtain ⟨g2, l2, sb2, r2⟩ := asD_ok ok l1 sb1 ry e2
      exact ⟨g2, dx, dy, r, sb2, r1.mono l2, r2, e, kE_d q ok (.bl _)⟩
    · exact q.elim
  · exact q.elim
/-! ### <, <=, >, >= of ints and texts -/
def fS (f : Str → Str → Bool) : S → RV → RV → Res RV := fun s a b => match asStr a, asStr b with
  | some x, some y => .ok (.d (.bl (f x y))) s
  | _, _ => .stuck
theorem fS_ok {f : Str → Str → Bool} : OpS X W (fun x y H Q => ∃ i j, x = .str i ∧ y = .str j ∧ Q (.bl (f i j)) H) (fS f) := by
  intro σ g s H Q x y ra rb ok rx ry nn q
  unfold fS at q
  split at q
  · rename_i i j e1 e2
    exact ⟨i, j, asStr_ok rx e1, asStr_ok ry e2, kE_d q ok (.bl _)⟩
  · exact q.elim
theorem fI0_ok {f : Int → Int → Bool} : OpS X W (rI0 fun i j => .bl (f i j)) (fI cT fun i j => .bl (f i j)) :=
  fun σ g s H Q x y ra rb ok rx ry nn q => rI0_of (fI_ok (C' := fun _ _ => True) (fun _ _ _ => trivial) (fun _ _ i j => .bl _) σ g s H Q x y ra rb ok rx ry nn q)
def strLt (x y : Str) : Bool := decide (x.cps.toList < y.cps.toList)
def opLt := orF (fI cT fun i j => .bl (decide (i < j))) (fS fun x y => strLt x y)
def opLe := orF (fI cT fun i j => .bl (decide (i ≤ j))) (fS fun x y => !strLt y x)
def opGt := orF (fI cT fun i j => .bl (decide (j < i))) (fS fun x y => strLt y x)
def opGe := orF (fI cT fun i j => .bl (decide (j ≤ i))) (fS fun x y => !strLt x y)
/-! ### in, not in, by == of data -/
def anyO (f : D → Option Bool) : List D → Option Bool
  | [] => some false
  | x :: xs => match f x, anyO f xs with
    | some a, some b => some (a || b)
    | _, _ => none
def asItems (s : S) (r : RV) : Option (List D) := match asTup r with
  | some xs => some xs
  | none => asLst s r
def opIn (neg : Bool) : S → RV → RV → Res RV := fun s a b => match asD s a, asItems s b with
  | some x, some ys => match anyO (fun y => eqvO 40 y x) ys with
    | some r => .ok (.d (.bl (r != neg))) s
    | none => .stuck
  | _, _ => .stuck
def rInM (K : PySem.W.Frag) (neg : Bool) : R2 := fun x y H Q => ∃ g a vs dx ys b, Sub g.F H ∧ y = .ref a ∧ (SqL K H a vs ∨ SqT K H a vs) ∧ Rep K g x dx ∧ RepL K g vs ys ∧ anyO (fun y => eqvO 40 y dx) ys = some b ∧ Q (.bl (b != neg)) H
end
section
variable {X : Cx} {pins : List (Addr × Obj)} {σ : St} {g : G} {H : Hp} {s : Shared}
theorem eqvO_fun (I : Inv X pins σ H s) (sb : Sub g.F H) : ∀ (n : Nat) {x x' y : D} {b b' : Bool} {v : V}, eqvO n x y = some b → eqvO n x' y = some b' → Rep X.K g v x → Rep X.K g v x' → b = b' := by
  have sc : ∀ {x x' : D} {v : V}, (∀ xs, x ≠ .tup xs) → (∀ xs, x ≠ .lst xs) → (∀ n, x ≠ .ref n) → (∀ kvs, x ≠ .dic kvs) → (∀ kvs, x ≠ .scr kvs) → Rep X.K g v x → Rep X.K g v x' → x = x' := by
    intro x x' v h1 h2 h3 h4 h5 r r'
    cases r with
    | non => cases r'; rfl
    | bl b => cases r'; rfl
    | int i => cases r'; rfl
    | str x => cases r'; rfl
    | tup _ _ => exact absurd rfl (h1 _)
    | lst _ _ => exact absurd rfl (h2 _)
    | dic _ _ => exact absurd rfl (h4 _)
    | ref n _ => exact absurd rfl (h3 _)
    | scr _ _ => exact absurd rfl (h5 _)
  have all : ∀ {f : D → D → Option Bool}, (∀ {x x' y : D} {b b' : Bool} {v : V}, f x y = some b → f x' y = some b' → Rep X.K g v x → Rep X.K g v x' → b = b') →
      ∀ {xs xs' ys : List D} {b b' : Bool} {vs : List V}, eqAll f xs ys = some b → eqAll f xs' ys = some b' → RepL X.K g vs xs → RepL X.K g vs xs' → b = b' := by
    intro f ih xs
    induction xs with
    | nil =>
      intro xs' ys b b' vs e e' r1 r2
      cases r1; cases r2
      rw [e] at e'; cases e'; rfl
    | cons x xs ihx =>
      intro xs' ys b b' vs e e' r1 r2
      cases r1 with
      | cons a1 b1 =>
        cases r2 with
        | cons a2 b2 =>
          cases ys with
          | nil => cases e; cases e'; rfl
          | cons y ys =>
            simp only [eqAll] at e e'
            split at e
            · rename_i p q e1 e2
              split at e'
              · rename_i p' q' e1' e2'
                cases e; cases e'
                rw [ih e1 e1' a1 a2, ihx e2 e2' b1 b2]
              · cases e'
            · cases e
  intro n
  induction n with
  | zero =>
    intro x x' y b b' v e e' r r'
    have := sc (x := x) (x' := x') (fun xs z => by subst z; cases y <;> cases e) (fun xs z => by subst z; cases y <;> cases e) (fun xs z => by subst z; cases y <;> cases e) (fun xs z => by subst z; cases y <;> cases e) (fun xs z => by subst z; cases y <;> cases e) r r'
    subst this
    rw [e] at e'; cases e'; rfl
  | succ n ih =>
    intro x x' y b b' v e e' r r'
    cases x with
    | tup xs =>
      cases r with
      | tup h1 r1 =>
        cases r' with
        | tup h2 r2 =>
          have z := I.tuple_inj (sqT_mono sb h1) (sqT_mono sb h2)
          subst z
          cases y with
          | tup ys => exact all (f := eqvO n) ih (show eqAll (eqvO n) _ _ = some b from e) (show eqAll (eqvO n) _ _ = some b' from e') r1 r2
          | dic _ => cases e
          | ref _ => cases e
          | scr _ => cases e
          | _ => cases e; cases e'; rfl
        | lst h2 r2 => exact (tup_not_lst I (sqT_mono sb h1) (sb _ _ h2)).elim
        | dic h2 r2 => cases y <;> cases e'
        | ref n _ => cases y <;> cases e'
        | scr _ _ => cases y <;> cases e'
    | lst xs =>
      cases r with
      | lst h1 r1 =>
        cases r' with
        | lst h2 r2 =>
          have z := (sb _ _ h1).symm.trans (sb _ _ h2)
          cases z
          cases y with
          | lst ys => exact all (f := eqvO n) ih (show eqAll (eqvO n) _ _ = some b from e) (show eqAll (eqvO n) _ _ = some b' from e') r1 r2
          | dic _ => cases e
          | ref _ => cases e
          | scr _ => cases e
          | _ => cases e; cases e'; rfl
        | tup h2 r2 => exact (tup_not_lst I (sqT_mono sb h2) (sb _ _ h1)).elim
        | dic h2 r2 => cases y <;> cases e'
        | ref n _ => cases y <;> cases e'
        | scr _ _ => cases y <;> cases e'
    | dic _ => cases y <;> cases e
    | ref _ => cases y <;> cases e
    | scr _ => cases y <;> cases e
    | _ =>
      have := sc (x' := x') (fun xs z => by cases z) (fun xs z => by cases z) (fun xs z => by cases z) (fun xs z => by cases z) (fun xs z => by cases z) r r'
      subst this
      rw [e] at e'; cases e'; rfl
theorem any_at (I : Inv X pins σ H s) (sb : Sub g.F H) {A : Around} (hu : A.units + 40 < cLine) {dx : D} {vx : V} {v : Value} (rx : Rep X.K g vx dx) (rv : RelV vx v) :
    ∀ {ys : List D} {b : Bool} {vs : List V} {us : List Value}, anyO (fun y => eqvO 40 y dx) ys = some b → RepL X.K g vs ys → Vals vs us →
      ∃ e : Value → Bool, (∀ u ∈ us, SeqAt.EqAt A s u v (e u)) ∧ b = us.any e := by
  classical
  -- a value's answer by the value alone
  let e : Value → Bool := fun u => decide (∃ w d, RelV w u ∧ Rep X.K g w d ∧ eqvO 40 d dx = some true)
  have he : ∀ {u : Value} {w : V} {d : D} {k : Bool}, RelV w u → Rep X.K g w d → eqvO 40 d dx = some k → e u = k := by
    intro u w d k r1 r2 q
    cases k with
    | true => exact decide_eq_true ⟨w, d, r1, r2, q⟩
    | false =>
      refine decide_eq_false fun ⟨w', d', r1', r2', q'⟩ => ?_
      cases r1.inj r1'
      cases eqvO_fun I sb 40 q q' r2 r2'
  suffices key : ∀ {ys : List D} {b : Bool} {vs : List V} {us : List Value}, anyO (fun y => eqvO 40 y dx) ys = some b → RepL X.K g vs ys → Vals vs us →
      (∀ u ∈ us, SeqAt.EqAt A s u v (e u)) ∧ b = us.any e by
    intro ys b vs us h r1 r2
    exact ⟨e, key h r1 r2⟩
  intro ys
  induction ys with
  | nil =>
    intro b vs us h r1 r2
    cases r1; cases r2; cases h
    exact ⟨(fun u hu => nomatch hu), rfl⟩
  | cons y ys ih =>
    intro b vs us h r1 r2
    cases r1 with
    | cons a1 b1 =>
      cases r2 with
      | cons c1 d1 =>
        simp only [anyO] at h
        split at h
        · rename_i p q e1 e2
          cases h
          obtain ⟨i1, i2⟩ := ih e2 b1 d1
          have z := (eqvO_at I sb 40 (A := A) hu e1 a1 rx c1 rv).2.1
          have ze := he c1 a1 e1
          refine ⟨fun u hu => ?_, ?_⟩
          · rcases List.mem_cons.mp hu with rfl | hu
            · rw [ze]; exact z
            · exact i1 u hu
          · rw [List.any_cons, ze, ← i2]
        · cases h
end
section
variable {X : Cx} {W : WX}
theorem op_inM (hu : X.A.units + 64 < cLine) : OpR X (compareOp .In) (rInM X.K false) := by
  intro pins s σ H x y v u Q I rx ry ⟨g, a, vs, dx, ys, b, sb, hy, hq, r1, r2, e, q⟩
  subst hy
  cases (show u = Value.ref a from ry)
  have q' : Q (.bl b) H := by
    have : (b != false) = b := by cases b <;> rfl
    rw [this] at q; exact q
  have hu' : X.A.in1.units + 40 < cLine := by show X.A.units + 1 + 40 < cLine; omega
  rcases hq with hq | hq
  · obtain ⟨its, r, pl, hz⟩ := I.list hq
    obtain ⟨f, hf, hb⟩ := any_at I sb hu' r1 rx e r2 r
    refine SeqAt.in_listAt f pl.isList (fun w hw => hf w (by simpa using hw)) ⟨.bl b, H, I, ?_, q'⟩
    show Value.bool _ = _
    rw [hb]; simp
  · obtain ⟨its, r, pl, hz⟩ := I.tuple hq
    obtain ⟨f, hf, hb⟩ := any_at I sb hu' r1 rx e r2 r
    refine SeqAt.in_tupleAt f pl (fun w hw => hf w (by simpa using hw)) ⟨.bl b, H, I, ?_, q'⟩
    show Value.bool _ = _
    rw [hb]; simp
theorem op_notInM (hu : X.A.units + 64 < cLine) : OpR X (compareOp .NotIn) (rInM X.K true) := by
  intro pins s σ H x y v u Q I rx ry ⟨g, a, vs, dx, ys, b, sb, hy, hq, r1, r2, e, q⟩
  subst hy
  cases (show u = Value.ref a from ry)
  have q' : Q (.bl (!b)) H := by
    have : (b != true) = !b := by cases b <;> rfl
    rw [this] at q; exact q
  have hu' : X.A.in1.units + 40 < cLine := by show X.A.units + 1 + 40 < cLine; omega
  rcases hq with hq | hq
  · obtain ⟨its, r, pl, hz⟩ := I.list hq
    obtain ⟨f, hf, hb⟩ := any_at I sb hu' r1 rx e r2 r
    refine SeqAt.notIn_listAt f pl.isList (fun w hw => hf w (by simpa using hw)) ⟨.bl (!b), H, I, ?_, q'⟩
    show Value.bool _ = _
    rw [hb]; simp
  · obtain ⟨its, r, pl, hz⟩ := I.tuple hq
    obtain ⟨f, hf, hb⟩ := any_at I sb hu' r1 rx e r2 r
    refine SeqAt.notIn_tupleAt f pl (fun w hw => hf w (by simpa using hw)) ⟨.bl (!b), H, I, ?_, q'⟩
    show Value.bool _ = _
    rw [hb]; simp
theorem os_in {neg : Bool} : OpS X W (rInM X.K neg) (opIn neg) := by
  intro σ g s H Q x y ra rb ok rx ry nn q
  unfold opIn at q
  split at q
  · rename_i dx ys e1 e2
    split at q
    · rename_i r e
      obtain ⟨g1, l1, sb1, r1⟩ := asD_ok ok (GLe.refl g) ok.sub rx e1
      unfold asItems at e2
      split at e2
      · rename_i zs e3
        cases e2
        obtain ⟨a, vs, rfl, h, r2⟩ := asTup_ok ok ry e3
        exact ⟨g1, a, vs, dx, ys, r, sb1, rfl, .inr h, r1, r2.mono l1, e, kE_d q ok (.bl _)⟩
      · obtain ⟨a, vs, rfl, h, r2⟩ := asLst_ok ok ry e2
        exact ⟨g1, a, vs, dx, ys, r, sb1, rfl, .inl (.of h), r1, r2.mono l1, e, kE_d q ok (.bl _)⟩
    · exact q.elim
  · exact q.elim
variable {a b c : Expr} {ma mb mc : M} {pos : Pos}
theorem me_eq (hu : X.A.units + 64 < cLine) (ha : ME X W a ma) (hb : ME X W b mb) : ME X W (.Compare a [.Eq] [b] pos) (mBin (opEq false) ma mb) := me_cmp (op_eqM hu) os_eq ha hb (nomark _)
theorem me_ne (hu : X.A.units + 64 < cLine) (ha : ME X W a ma) (hb : ME X W b mb) : ME X W (.Compare a [.NotEq] [b] pos) (mBin (opEq true) ma mb) := me_cmp (op_neM hu) os_eq ha hb (nomark _)
theorem or_lt : OpR X (compareOp .Lt) (fun x y H Q => rI0 (fun i j => .bl (decide (i < j))) x y H Q ∨ ∃ i j, x = .str i ∧ y = .str j ∧ Q (.bl (strLt i j)) H) := op_lt.or op_lt_str
theorem or_le : OpR X (compareOp .LtE) (fun x y H Q => rI0 (fun i j => .bl (decide (i ≤ j))) x y H Q ∨ ∃ i j, x = .str i ∧ y = .str j ∧ Q (.bl (!strLt j i)) H) := op_le.or op_le_str
theorem or_gt : OpR X (compareOp .Gt) (fun x y H Q => rI0 (fun i j => .bl (decide (j < i))) x y H Q ∨ ∃ i j, x = .str i ∧ y = .str j ∧ Q (.bl (strLt j i)) H) := op_gt.or op_gt_str
theorem or_ge : OpR X (compareOp .GtE) (fun x y H Q => rI0 (fun i j => .bl (decide (j ≤ i))) x y H Q ∨ ∃ i j, x = .str i ∧ y = .str j ∧ Q (.bl (!strLt i j)) H) := op_ge.or op_ge_str
theorem os_lt : OpS X W (fun x y H Q => rI0 (fun i j => .bl (decide (i < j))) x y H Q ∨ ∃ i j, x = .str i ∧ y = .str j ∧ Q (.bl (strLt i j)) H) opLt := fI0_ok.or fS_ok
theorem os_le : OpS X W (fun x y H Q => rI0 (fun i j => .bl (decide (i ≤ j))) x y H Q ∨ ∃ i j, x = .str i ∧ y = .str j ∧ Q (.bl (!strLt j i)) H) opLe := fI0_ok.or fS_ok
theorem os_gt : OpS X W (fun x y H Q => rI0 (fun i j => .bl (decide (j < i))) x y H Q ∨ ∃ i j, x = .str i ∧ y = .str j ∧ Q (.bl (strLt j i)) H) opGt := fI0_ok.or fS_ok
theorem os_ge : OpS X W (fun x y H Q => rI0 (fun i j => .bl (decide (j ≤ i))) x y H Q ∨ ∃ i j, x = .str i ∧ y = .str j ∧ Q (.bl (!strLt i j)) H) opGe := fI0_ok.or fS_ok
theorem me_lt (ha : ME X W a ma) (hb : ME X W b mb) : ME X W (.Compare a [.Lt] [b] pos) (mBin opLt ma mb) := me_cmp or_lt os_lt ha hb (nomark _)
theorem me_le (ha : ME X W a ma) (hb : ME X W b mb) : ME X W (.Compare a [.LtE] [b] pos) (mBin opLe ma mb) := me_cmp or_le os_le ha hb (nomark _)
theorem me_gt (ha : ME X W a ma) (hb : ME X W b mb) : ME X W (.Compare a [.Gt] [b] pos) (mBin opGt ma mb) := me_cmp or_gt os_gt ha hb (nomark _)
theorem me_ge (ha : ME X W a ma) (hb : ME X W b mb) : ME X W (.Compare a [.GtE] [b] pos) (mBin opGe ma mb) := me_cmp or_ge os_ge ha hb (nomark _)
theorem me_in (hu : X.A.units + 64 < cLine) (ha : ME X W a ma) (hb : ME X W b mb) (hm : behindInMarks .In b = false) : ME X W (.Compare a [.In] [b] pos) (mBin (opIn false) ma mb) := me_cmp (op_inM hu) os_in ha hb hm
theorem me_notIn (hu : X.A.units + 64 < cLine) (ha : ME X W a ma) (hb : ME X W b mb) (hm : behindInMarks .NotIn b = false) : ME X W (.Compare a [.NotIn] [b] pos) (mBin (opIn true) ma mb) := me_cmp (op_notInM hu) os_in ha hb hm
/-! ### is None -/
def isNonRV : RV → Bool
  | .d .non => true
  | _ => false
def opIsN (neg : Bool) : S → RV → RV → Res RV := fun s a b => match b with
  | .d .non => .ok (.d (.bl (isNonRV a != neg))) s
  | _ => .stuck
theorem isN_dec {K : PySem.W.Frag} {g : G} {s : S} {H : Hp} {x : V} {ra : RV} (h : RepRV K g s H x ra) : decide (x = .non) = isNonRV ra := by
  cases ra with
  | d y => cases (show Rep K g x y from h) <;> rfl
  | «at» i => cases (show x = _ from h); rfl
  | new o => obtain ⟨a, rfl, _⟩ := h; rfl
theorem os_isN : OpS X W (fun x y H Q => y = .non ∧ Q (.bl (decide (x = .non))) H) (opIsN false) := by
  intro σ g s H Q x y ra rb ok rx ry nn q
  unfold opIsN at q
  split at q
  · cases (show Rep _ _ _ _ from ry)
    refine ⟨rfl, ?_⟩
    rw [isN_dec rx]
    have : ∀ k : Bool, (k != false) = k := fun k => by cases k <;> rfl
    rw [this] at q
    exact kE_d q ok (.bl _)
  · exact q.elim
theorem os_notN : OpS X W (fun x y H Q => y = .non ∧ Q (.bl (!decide (x = .non))) H) (opIsN true) := by
  intro σ g s H Q x y ra rb ok rx ry nn q
  unfold opIsN at q
  split at q
  · cases (show Rep _ _ _ _ from ry)
    refine ⟨rfl, ?_⟩
    rw [isN_dec rx]
    have : ∀ k : Bool, (k != true) = !k := fun k => by cases k <;> rfl
    rw [this] at q
    exact kE_d q ok (.bl _)
  · exact q.elim
theorem me_isN {j p} (ha : ME X W a ma) : ME X W (.Compare a [.Is] [.Constant .none j p] pos) (mBin (opIsN false) ma (mC .non)) := me_cmp op_isN os_isN ha me_non (nomark _)
theorem me_notN {j p} (ha : ME X W a ma) : ME X W (.Compare a [.IsNot] [.Constant .none j p] pos) (mBin (opIsN true) ma (mC .non)) := me_cmp op_notN os_notN ha me_non (nomark _)
end
end MI
/-! # Tests: truth, and, or, not; a if t else b; chains -/
namespace MI
open PySem L2

def truthD : D → Option Bool
  | .non => some false
  | .bl b => some b
  | .int i => some (i != 0)
  | .str x => if x.length ≤ sizeLine then some ((x.length : Int) != 0) else none
  | .tup xs => some (!xs.isEmpty)
  | .lst xs => some (!xs.isEmpty)
  | .dic xs => some (!xs.isEmpty)
  | .ref _ => none
  | .scr xs => some (!xs.isEmpty)
def mTru (m : M) : S → Res Bool := fun s => (m s).bind fun r s1 => match (asD s1 r).bind truthD with
  | some b => .ok b s1
  | none => .stuck
def mNotT (m : S → Res Bool) : S → Res Bool := fun s => (m s).bind fun b s1 => .ok (!b) s1
def mAndT (a b : S → Res Bool) : S → Res Bool := fun s => (a s).bind fun c s1 => if c = true then b s1 else .ok false s1
def mOrT (a b : S → Res Bool) : S → Res Bool := fun s => (a s).bind fun c s1 => if c = true then .ok true s1 else b s1
/-- a test's answer as a value -/
def mVal (m : S → Res Bool) : M := fun s => (m s).bind fun b s1 => .ok (.d (.bl b)) s1
def mIf (t : S → Res Bool) (a b : M) : M := fun s => (t s).bind fun c s1 => if c = true then a s1 else b s1
/-- a bool alone -/
def mBl (m : M) : S → Res Bool := fun s => (m s).bind fun r s1 => match r with
  | .d (.bl b) => .ok b s1
  | _ => .stuck
section
variable {K : PySem.W.Frag} {W : WX} {σ : St} {g : G} {s : S} {H : Hp}
theorem isEmpty_L {vs : List V} {ds : List D} (r : RepL K g vs ds) : vs.isEmpty = ds.isEmpty := by cases r <;> rfl
theorem isEmpty_K {vs : List (Key × V)} {ds : List (Key × D)} (r : RepK K g vs ds) : vs.isEmpty = ds.isEmpty := by cases r <;> rfl
theorem truth_ok {v : V} {r : RV} {b : Bool} (ok : Ok K g s σ H) (h : RepRV K g s H v r) (e : (asD s r).bind truthD = some b) : TruV K v H b := by
  cases e1 : asD s r with
  | none => rw [e1] at e; cases e
  | some d =>
    rw [e1] at e
    have e2 : truthD d = some b := e
    obtain ⟨g1, l, sb, rp⟩ := asD_ok ok (GLe.refl g) ok.sub h e1
    cases rp with
    | non => cases e2; rfl
    | bl c => cases e2; rfl
    | int i => cases e2; rfl
    | str x =>
      simp only [truthD] at e2
      split at e2
      · rename_i hl
        cases e2
        exact ⟨hl, rfl⟩
      · cases e2
    | tup h1 r1 => cases e2; exact .inr (.inl ⟨_, sqT_mono sb h1, by rw [isEmpty_L r1]⟩)
    | lst h1 r1 => cases e2; exact .inl ⟨_, .of (sb _ _ h1), by rw [isEmpty_L r1]⟩
    | dic h1 r1 => cases e2; exact .inr (.inr ⟨_, sb _ _ h1, by rw [isEmpty_K r1]⟩)
    | ref n hn => cases e2
    | scr h1 r1 => cases e2; exact .inl ⟨_, sqL_mono sb h1, by rw [isEmpty_L r1]⟩
end
section
variable {X : Cx} {W : WX} {a b c : Expr} {ma mb mc : M} {ta tb : S → Res Bool} {pos : Pos} {rest : List Expr}
theorem mt_val (ha : ME X W a ma) (he : ∀ whole, isTrue a X.env whole = (do let v ← whole; standAt a.pos; holding [v] (truthy v)) := by intro _; rfl) : MT X W a (mTru ma) := by
  refine pt_imp (pt_truth ha he) fun σ H Q ⟨g, s, ok, h⟩ => ?_
  refine ⟨g, s, ok, (PostE.bind h).mono fun r g1 s1 H1 t1 k1 o1 h1 v rv => ?_⟩
  cases e : (asD s1 r).bind truthD with
  | none => rw [e] at h1; exact h1.elim
  | some k => rw [e] at h1; exact ⟨k, truth_ok o1 rv e, PostE.done h1 o1⟩
/-- a comparison (or what else is a bool) as a test -/
theorem mt_cmp {op : CmpOp} {r : R2} {f : S → RV → RV → Res RV} (ho : OpR X (compareOp op) r) (hs : OpS X W r f) (ha : ME X W a ma) (hb : ME X W b mb) (hm : behindInMarks op b = false) : MT X W (.Compare a [op] [b] pos) (mBl (mBin f ma mb)) := by
  refine pt_imp (pt_cmpR ho ha hb hm) fun σ H Q ⟨g, s, ok, h⟩ => ?_
  show tOp r (tM X.K W ma) (tM X.K W mb) σ H _
  refine tOp_of hs ok ((PostE.bind h).mono fun r g1 s1 H1 t1 k1 o1 h1 v rv => ?_)
  split at h1
  · rename_i k
    cases (show Rep _ _ _ _ from rv)
    exact ⟨k, rfl, PostE.done h1 o1⟩
  · exact h1.elim
theorem mt_not (ha : MT X W a ta) : MT X W (.UnaryOp .Not a pos) (mNotT ta) := by
  refine pt_imp (L2.pt_not ha) fun σ H Q ⟨g, s, ok, h⟩ => ?_
  exact ⟨g, s, ok, (PostE.bind h).mono fun b g1 s1 H1 t1 k1 o1 h1 => PostE.done (W := W) h1 o1⟩
def MW (X : Cx) (W : WX) (e : Expr) (m : S → Res Bool) : Prop := PW X e (tMT X.K W m)
theorem pw_imp {e : Expr} {t t' : TT} (h : PW X e t) (i : ∀ σ H Q, t' σ H Q → t σ H Q) : PW X e t' :=
  ⟨fun wh pins s σ H Q I q => h.run wh pins s σ H Q I (i σ H Q q)⟩
theorem mw_and1 (ha : MT X W a ta) : MW X W (.BoolOp .And [a] pos) ta := pw_and1 ha
theorem mw_or1 (ha : MT X W a ta) : MW X W (.BoolOp .Or [a] pos) ta := pw_or1 ha
theorem mw_and (ha : MT X W a ta) (hb : MW X W (.BoolOp .And (b :: rest) pos) tb) : MW X W (.BoolOp .And (a :: b :: rest) pos) (mAndT ta tb) := by
  refine pw_imp (pw_and ha hb) fun σ H Q ⟨g, s, ok, h⟩ => ?_
  refine ⟨g, s, ok, (PostE.bind h).mono fun c g1 s1 H1 t1 k1 o1 h1 => ?_⟩
  cases c with
  | true => rw [if_pos rfl] at h1; show (if true = true then _ else _); rw [if_pos rfl]; exact ⟨g1, s1, o1, h1⟩
  | false => rw [if_neg (by decide)] at h1; show (if false = true then _ else _); rw [if_neg (by decide)]; exact PostE.done h1 o1
theorem mw_or (ha : MT X W a ta) (hb : MW X W (.BoolOp .Or (b :: rest) pos) tb) : MW X W (.BoolOp .Or (a :: b :: rest) pos) (mOrT ta tb) := by
  refine pw_imp (pw_or ha hb) fun σ H Q ⟨g, s, ok, h⟩ => ?_
  refine ⟨g, s, ok, (PostE.bind h).mono fun c g1 s1 H1 t1 k1 o1 h1 => ?_⟩
  cases c with
  | true => rw [if_pos rfl] at h1; show (if true = true then _ else _); rw [if_pos rfl]; exact PostE.done h1 o1
  | false => rw [if_neg (by decide)] at h1; show (if false = true then _ else _); rw [if_neg (by decide)]; exact ⟨g1, s1, o1, h1⟩
theorem mt_w (h : MW X W a ta) : MT X W a ta := PW.pt h
/-! ### and, or, not as values: of bools -/
def mAndV (a b : M) : M := fun s => (a s).bind fun r s1 => match r with
  | .d (.bl c) => if c = true then b s1 else .ok (.d (.bl false)) s1
  | _ => .stuck
def mOrV (a b : M) : M := fun s => (a s).bind fun r s1 => match r with
  | .d (.bl c) => if c = true then .ok (.d (.bl true)) s1 else b s1
  | _ => .stuck
def mNotV (a : M) : M := fun s => (a s).bind fun r s1 => match r with
  | .d (.bl c) => .ok (.d (.bl (!c))) s1
  | _ => .stuck
/-- not of a value, by its truth -/
def mNotVT (a : M) : M := mVal (mNotT (mTru a))
theorem me_one {op} (ha : ME X W a ma) : ME X W (.BoolOp op [a] pos) ma := pe_one ha
theorem me_and (ha : ME X W a ma) (hb : ME X W (.BoolOp .And (b :: rest) pos) mb) : ME X W (.BoolOp .And (a :: b :: rest) pos) (mAndV ma mb) := by
  refine pe_imp (pe_and ha hb) fun σ H Q ⟨g, s, ok, h⟩ => ?_
  refine ⟨g, s, ok, (PostE.bind h).mono fun r g1 s1 H1 t1 k1 o1 h1 v rv => ?_⟩
  split at h1
  · rename_i c
    cases (show Rep _ _ _ _ from rv)
    refine ⟨c, rfl, ?_⟩
    cases c with
    | true => rw [if_pos rfl] at h1; rw [if_pos rfl]; exact ⟨g1, s1, o1, h1⟩
    | false => rw [if_neg (by decide)] at h1; rw [if_neg (by decide)]; exact kE_d h1 o1 (.bl _)
  · exact h1.elim
theorem me_or (ha : ME X W a ma) (hb : ME X W (.BoolOp .Or (b :: rest) pos) mb) : ME X W (.BoolOp .Or (a :: b :: rest) pos) (mOrV ma mb) := by
  refine pe_imp (pe_or ha hb) fun σ H Q ⟨g, s, ok, h⟩ => ?_
  refine ⟨g, s, ok, (PostE.bind h).mono fun r g1 s1 H1 t1 k1 o1 h1 v rv => ?_⟩
  split at h1
  · rename_i c
    cases (show Rep _ _ _ _ from rv)
    refine ⟨c, rfl, ?_⟩
    cases c with
    | true => rw [if_pos rfl] at h1; rw [if_pos rfl]; exact kE_d h1 o1 (.bl _)
    | false => rw [if_neg (by decide)] at h1; rw [if_neg (by decide)]; exact ⟨g1, s1, o1, h1⟩
  · exact h1.elim
theorem me_not (ha : ME X W a ma) : ME X W (.UnaryOp .Not a pos) (mNotV ma) := by
  refine pe_imp (pe_not ha) fun σ H Q ⟨g, s, ok, h⟩ => ?_
  refine ⟨g, s, ok, (PostE.bind h).mono fun r g1 s1 H1 t1 k1 o1 h1 v rv => ?_⟩
  split at h1
  · rename_i c
    cases (show Rep _ _ _ _ from rv)
    exact ⟨c, rfl, kE_d h1 o1 (.bl _)⟩
  · exact h1.elim
theorem me_if {t : S → Res Bool} (hc : MT X W c t) (ha : ME X W a ma) (hb : ME X W b mb) : ME X W (.IfExp c a b pos) (mIf t ma mb) := by
  refine pe_imp (pe_ifExp hc ha hb) fun σ H Q ⟨g, s, ok, h⟩ => ?_
  refine ⟨g, s, ok, (PostE.bind h).mono fun c g1 s1 H1 t1 k1 o1 h1 => ?_⟩
  cases c with
  | true => rw [if_pos rfl] at h1; show (if true = true then _ else _); rw [if_pos rfl]; exact ⟨g1, s1, o1, h1⟩
  | false => rw [if_neg (by decide)] at h1; show (if false = true then _ else _); rw [if_neg (by decide)]; exact ⟨g1, s1, o1, h1⟩
/-! ### a op b op' c -/
def mChain (f f' : S → RV → RV → Res RV) (a b c : M) : M := fun s => (mSettle a s).bind fun x s1 => (mSettle b s1).bind fun y s2 => (f s2 x y).bind fun z s3 => match z with
  | .d (.bl k) => if k = true then (c s3).bind fun w s4 => f' s4 y w else .ok (.d (.bl false)) s3
  | _ => .stuck
theorem tChain_of {r r' : R2} {f f' : S → RV → RV → Res RV} (hs : OpS X W r f) (hs' : OpS X W r' f') {σ : St} {H : Hp} {Q : VK} {g : G} {s : S} (ok : Ok X.K g s σ H)
    (h : PostE X.K W σ g s H (kE X.K Q) (mChain f f' ma mb mc s)) : tChain r r' (tM X.K W ma) (tM X.K W mb) (tM X.K W mc) σ H Q := by
  refine tM_settle ok (PostE.bind h) fun x g1 s1 H1 v t1 k1 o1 rv nn h1 => ?_
  refine tM_settle o1 (PostE.bind h1) fun y g2 s2 H2 u t2 k2 o2 ru nn2 h2 => ?_
  refine hs σ g2 s2 H2 _ v u x y o2 (rv.held nn t2 k2) ru nn ((PostE.bind h2).mono fun z g3 s3 H3 t3 k3 o3 h3 w rw' => ?_)
  split at h3
  · rename_i k
    cases (show Rep _ _ _ _ from rw')
    refine ⟨k, rfl, ?_⟩
    cases k with
    | true =>
      rw [if_pos rfl] at h3; rw [if_pos rfl]
      refine ⟨g3, s3, o3, (PostE.bind h3).mono fun q g4 s4 H4 t4 k4 o4 h4 w rw' => ?_⟩
      have ru3 : RepRV X.K g3 s3 H3 u y := ru.held nn2 t3 k3
      have ru4 : RepRV X.K g4 s4 H4 u y := ru3.held nn2 t4 k4
      exact hs' σ g4 s4 H4 Q u w y q o4 ru4 rw' nn2 h4
    | false => rw [if_neg (by decide)] at h3; rw [if_neg (by decide)]; exact kE_d h3 o3 (.bl _)
  · exact h3.elim
theorem me_chain {op op' : CmpOp} {r r' : R2} {f f' : S → RV → RV → Res RV} (ho : OpR X (compareOp op) r) (ho' : OpR X (compareOp op') r') (hs : OpS X W r f) (hs' : OpS X W r' f') (ha : ME X W a ma) (hb : ME X W b mb) (hc : ME X W c mc)
    (hm : lastMarks [op, op'] [b, c] = false := by with_unfolding_all rfl) : ME X W (.Compare a [op, op'] [b, c] pos) (mChain f f' ma mb mc) :=
  pe_imp (pe_chain ho ho' ha hb hc hm) fun _ _ _ ⟨_, _, ok, h⟩ => tChain_of hs hs' ok h
theorem mt_chain {op op' : CmpOp} {r r' : R2} {f f' : S → RV → RV → Res RV} (ho : OpR X (compareOp op) r) (ho' : OpR X (compareOp op') r') (hs : OpS X W r f) (hs' : OpS X W r' f') (ha : ME X W a ma) (hb : ME X W b mb) (hc : ME X W c mc)
    (hm : lastMarks [op, op'] [b, c] = false := by with_unfolding_all rfl) : MT X W (.Compare a [op, op'] [b, c] pos) (mBl (mChain f f' ma mb mc)) := by
  refine pt_imp (L2.pt_chain ho ho' ha hb hc hm) fun σ H Q ⟨g, s, ok, h⟩ => ?_
  refine tChain_of hs hs' ok ((PostE.bind h).mono fun r g1 s1 H1 t1 k1 o1 h1 v rv => ?_)
  split at h1
  · rename_i k
    cases (show Rep _ _ _ _ from rv)
    exact ⟨k, rfl, PostE.done h1 o1⟩
  · exact h1.elim
end
end MI
/-! # Argument lists, displays, own functions -/
namespace MI
open PySem PySem.Spec PyProof.Rows L2

def mANil : S → Res (List D) := fun s => .ok [] s
def mACons (a : M) (r : S → Res (List D)) : S → Res (List D) := fun s => (mLeak a s).bind fun d s1 => (r s1).bind fun ds s2 => .ok (d :: ds) s2
def mTup (m : S → Res (List D)) : M := fun s => (m s).bind fun ds s1 => if ds.length ≤ sizeLine then .ok (.d (.tup ds)) s1 else .stuck
def mLst (m : S → Res (List D)) : M := fun s => (m s).bind fun ds s1 => if ds.length ≤ sizeLine then .ok (.new (.lst ds)) s1 else .stuck

section
variable {K : PySem.W.Frag} {W : WX} {σ : L2.St} {g : G} {s : S} {H : Hp}
/-- the leaked reading of a part -/
theorem tM_leak {m : M} {Q : VK} {k : D → G → S → Hp → Prop} (ok : Ok K g s σ H)
    (h : PostE K W σ g s H k (mLeak m s)) (q : ∀ d g' s' H' v, Step g H g' H' → SlKeep g g' → Ok K g' s' σ H' → Rep K g' v d → k d g' s' H' → Q v H') : tM K W m σ H Q := by
  refine ⟨g, s, ok, (PostE.bind h).mono fun r g1 s1 H1 t1 k1 o1 h1 v rv => ?_⟩
  cases e : leak r s1 with
  | none => rw [e] at h1; exact h1.elim
  | some p =>
    obtain ⟨d, s2⟩ := p
    rw [e] at h1
    obtain ⟨g2, t2, k2, o2, rv2⟩ := leak_ok o1 rv e
    exact q d g2 s2 H1 v (t1.trans t2) (k1.trans k2) o2 rv2 (h1 g2 H1 t2 k2 o2)
end
section
variable {X : Cx} {W : WX} {e : Expr} {es : List Expr} {me : M} {m : S → Res (List D)} {pos : Pos}
theorem ma_nil : MA X W [] mANil := pa_imp pa_nil fun σ H Q ⟨g, s, ok, h⟩ => PostE.done h ok _ .nil
theorem ma_cons (ha : ME X W e me) (hr : MA X W es m) (hs : starEach (e :: es) X.env = (false, eval e X.env) :: starEach es X.env := by rfl) : MA X W (e :: es) (mACons me m) := by
  refine pa_imp (pa_cons ha hr hs) fun σ H Q ⟨g, s, ok, h⟩ => ?_
  refine tM_leak ok (PostE.bind h) fun d g1 s1 H1 v t1 k1 o1 rv h1 => ?_
  refine ⟨g1, s1, o1, (PostE.bind h1).mono fun ds g2 s2 H2 t2 k2 o2 h2 vs rs => ?_⟩
  exact PostE.done h2 o2 _ (.cons (rv.mono t2.le) rs)
theorem me_tup {x1} (h : MA X W es m) : ME X W (.Tuple es x1 pos) (mTup m) := by
  refine pe_imp (pe_tup h) fun σ H Q ⟨g, s, ok, h⟩ => ?_
  refine ⟨g, s, ok, (PostE.bind h).mono fun ds g1 s1 H1 t1 k1 o1 h1 vs rs => ?_⟩
  split at h1
  · rename_i hl
    exact ⟨by rw [rs.length]; exact hl, fun p hp => kE_tup h1 o1 hp rs⟩
  · exact h1.elim
theorem me_lst (h : MA X W es m) : ME X W (.List es pos) (mLst m) := by
  refine pe_imp (pe_lst h) fun σ H Q ⟨g, s, ok, h⟩ => ?_
  refine ⟨g, s, ok, (PostE.bind h).mono fun ds g1 s1 H1 t1 k1 o1 h1 vs rs => ?_⟩
  split at h1
  · rename_i hl
    exact ⟨by rw [rs.length]; exact hl, fun p hp => kE_new h1 o1 hp ⟨_, upd_same, rs⟩⟩
  · exact h1.elim
/-- of two readings of one expression the one that is not stuck -/
def orM (a b : M) : M := fun s => match a s with
  | .stuck => b s
  | r => r
theorem pe_or2 {t t' : TE} (h : PE X e t) (h' : PE X e t') : PE X e (fun σ H Q => t σ H Q ∨ t' σ H Q) :=
  ⟨fun pins s σ H Q I q => q.elim (h.run pins s σ H Q I) (h'.run pins s σ H Q I)⟩
theorem me_alt {ma mb : M} (ha : ME X W e ma) (hb : ME X W e mb) : ME X W e (orM ma mb) := by
  refine pe_imp (pe_or2 ha hb) fun σ H Q ⟨g, s, ok, h⟩ => ?_
  unfold orM at h
  cases q : ma s with
  | ok a s' => simp only [q] at h; exact .inl ⟨g, s, ok, by rw [q]; exact h⟩
  | exc c p s' => simp only [q] at h; exact .inl ⟨g, s, ok, by rw [q]; exact h⟩
  | stuck => simp only [q] at h; exact .inr ⟨g, s, ok, h⟩
end

/-! ### own functions -/
inductive CRes where
  | ok (d : D) (gl : List MObj) | exc (c : Str) (p : D) (gl : List MObj) | stuck
abbrev Fm := List D → List MObj → CRes
/-- a function's promise, by its mirror -/
def spM (K : PySem.W.Frag) (f : Fm) : Sp := fun vs H Q E => ∃ g gl ds, Ok K g ⟨[], gl⟩ [] H ∧ RepL K g vs ds ∧ match f ds gl with
  | .ok d gl' => ∀ v g' H', Step g H g' H' → Ok K g' ⟨[], gl'⟩ [] H' → Rep K g' v d → Q v H'
  | .exc c p gl' => ∀ cls dd g' H', Step g H g' H' → Ok K g' ⟨[], gl'⟩ [] H' → ExcRep K g' H' cls dd c p → E cls dd H'
  | .stuck => False
/-- a def's body as a mirror: n parameters, N slots -/
def mDef (n N : Nat) (body : S → Res Out) : Fm := fun ds gl => if ds.length = n then (match body ⟨ds.map Slot.val ++ List.replicate (N - n) Slot.none, gl⟩ with
  | .ok (.rt d) s => .ok d s.gl
  | .ok .nx s => .ok .non s.gl
  | .ok _ _ => .stuck
  | .exc c p s => .exc c p s.gl
  | .stuck => .stuck) else .stuck
def mCall (f : Fm) (m : S → Res (List D)) : M := fun s => (m s).bind fun ds s1 => match f ds s1.gl with
  | .ok d gl => .ok (.d d) { s1 with gl := gl }
  | .exc c p gl => .exc c p { s1 with gl := gl }
  | .stuck => .stuck

section
variable {K : PySem.W.Frag} {W : WX} {σ : L2.St} {g : G} {s : S} {H : Hp}
/-- the ghost for a callee: all that is not the store's or unchanging is protected -/
def G.callee (g : G) (gl : List MObj) (H : Hp) : G := { g with P := fun a => (∃ u, H a = some u) ∧ g.F a = none ∧ ¬ ∃ n, n < gl.length ∧ g.adr (.gl n) = a }
theorem callee_le (g : G) (gl : List MObj) (H : Hp) : GLe g (g.callee gl H) := ⟨Sub.refl _, Nat.le_refl _, fun _ _ => rfl⟩
/-- the ghost behind it -/
def G.back (g g' : G) : G := { g' with P := g.P, adr := fun l => match l with
  | .sl i => g.adr (.sl i)
  | .gl n => g'.adr (.gl n) }
theorem cell_sl0 {s : S} {i : Nat} {o : MObj} (e : s.env[i]? = some (.own o)) : cellOf s (.sl i) = some o := by
  show (match s.env[i]? with | some (.own o) => some o | _ => none) = _
  rw [e]
theorem gl_cell {s : S} {n : Nat} {o : MObj} (e : cellOf s (.gl n) = some o) : n < s.gl.length := (List.getElem?_eq_some_iff.mp e).1
theorem live_gl {g : G} {gl : List MObj} {a : Addr} (l : Live g ⟨[], gl⟩ a) : ∃ n, n < gl.length ∧ g.adr (.gl n) = a := by
  obtain ⟨l, o, e, z⟩ := l
  cases l with
  | sl i => exact nomatch (show (none : Option MObj) = some o from e)
  | gl n => exact ⟨n, gl_cell (s := ⟨[], gl⟩) e, z⟩
theorem Ok.callee (ok : Ok K g s σ H) : Ok K (g.callee s.gl H) ⟨[], s.gl⟩ [] H where
  sub := ok.sub
  cell := fun l o e => by
    cases l with
    | sl i => exact nomatch (show (none : Option MObj) = some o from e)
    | gl n =>
      obtain ⟨f, r⟩ := ok.cell (.gl n) o e
      exact ⟨f, r.mono (callee_le g s.gl H) rfl⟩
  inj := fun l l' o o' e e' z => by
    cases l with
    | sl i => exact nomatch (show (none : Option MObj) = some o from e)
    | gl n =>
      cases l' with
      | sl i => exact nomatch (show (none : Option MObj) = some o' from e')
      | gl n' => exact ok.inj (.gl n) (.gl n') o o' e e' z
  env := fun i x e => nomatch e
  len := rfl
  ng := ok.ng
  prot := fun a ⟨h1, h2, h3⟩ => ⟨h1, h2, fun l => h3 (live_gl l)⟩
theorem back_le {g' : G} {H' : Hp} {gl : List MObj} (t : Step (g.callee gl H) H g' H') : GLe g (g.back g') := ⟨t.le.F, t.le.ng, t.le.adr⟩
theorem back_ge {g' : G} : GLe g' (g.back g') := ⟨Sub.refl _, Nat.le_refl _, fun _ _ => rfl⟩
theorem prot_callee {a : Addr} (ok : Ok K g s σ H) (p : g.P a) : (g.callee s.gl H).P a := by
  obtain ⟨h1, h2, h3⟩ := ok.prot a p
  refine ⟨h1, h2, fun ⟨n, hn, z⟩ => h3 ⟨.gl n, s.gl[n], ?_, z⟩⟩
  show s.gl[n]? = _
  simp [hn]
theorem Ok.back {g' : G} {H' : Hp} {gl' : List MObj} (ok : Ok K g s σ H) (t : Step (g.callee s.gl H) H g' H') (ok' : Ok K g' ⟨[], gl'⟩ [] H') :
    Step g H (g.back g') H' ∧ SlKeep g (g.back g') ∧ Ok K (g.back g') { s with gl := gl' } σ H' := by
  have P' : g'.P = (g.callee s.gl H).P := t.P
  have own : ∀ i o, s.env[i]? = some (.own o) → (g.callee s.gl H).P (g.adr (.sl i)) := by
    intro i o e
    have ce := cell_sl0 e
    obtain ⟨f, r⟩ := ok.cell _ _ ce
    refine ⟨r.some, f, fun ⟨n, hn, z⟩ => ?_⟩
    have cg : cellOf s (.gl n) = some s.gl[n] := by show s.gl[n]? = _; simp [hn]
    exact nomatch ok.inj _ _ _ _ cg ce z
  have slc : ∀ i o, cellOf { s with gl := gl' } (.sl i) = some o → s.env[i]? = some (.own o) := by
    intro i o e
    have e' : (match s.env[i]? with | some (.own o) => some o | _ => none) = some o := e
    split at e'
    · rename_i o' h
      cases e'
      exact h
    · cases e'
  have glc : ∀ n o, cellOf { s with gl := gl' } (.gl n) = some o → cellOf (⟨[], gl'⟩ : S) (.gl n) = some o := fun n o e => e
  refine ⟨⟨back_le t, rfl, fun a p => t.keep a (prot_callee ok p)⟩, fun _ => rfl, ?_⟩
  refine ⟨ok'.sub, fun l o e => ?_, fun l l' o o' e e' z => ?_, fun i x e => (ok.env i x e).mono (back_le t) (fun _ => rfl), ok.len, ok'.ng, fun a p => ?_⟩
  · cases l with
    | sl i =>
      have e1 := slc i o e
      have p := own i o e1
      obtain ⟨_, r⟩ := ok.cell _ _ (cell_sl0 e1)
      exact ⟨(ok'.prot _ (by rw [P']; exact p)).2.1, r.mono (back_le t) (t.keep _ p)⟩
    | gl n =>
      obtain ⟨f, r⟩ := ok'.cell (.gl n) o (glc n o e)
      exact ⟨f, r.mono back_ge rfl⟩
  · cases l with
    | sl i =>
      have e1 := slc i o e
      cases l' with
      | sl j => exact ok.inj _ _ _ _ (cell_sl0 e1) (cell_sl0 (slc j o' e')) z
      | gl n => exact absurd ⟨.gl n, o', glc n o' e', z.symm⟩ (ok'.prot _ (by rw [P']; exact own i o e1)).2.2
    | gl n =>
      cases l' with
      | sl j => exact absurd ⟨.gl n, o, glc n o e, z⟩ (ok'.prot _ (by rw [P']; exact own j o' (slc j o' e'))).2.2
      | gl n' => exact ok'.inj (.gl n) (.gl n') o o' (glc n o e) (glc n' o' e') z
  · have q := prot_callee ok p
    obtain ⟨h1, h2, h3⟩ := ok'.prot a (by rw [P']; exact q)
    refine ⟨h1, h2, fun ⟨l, o, e, z⟩ => ?_⟩
    cases l with
    | sl i => exact (ok.prot a p).2.2 ⟨.sl i, o, cell_sl0 (slc i o e), z⟩
    | gl n => exact h3 ⟨.gl n, o, glc n o e, z⟩
/-- a call at the level of what is wanted -/
theorem sp_call {f : Fm} {vs : List V} {ds : List D} {Q : VK} {E : XK} (ok : Ok K g s σ H) (r : RepL K g vs ds)
    (h : PostE K W σ g s H (kE K Q) (match f ds s.gl with
      | .ok d gl => .ok (.d d) { s with gl := gl }
      | .exc c p gl => .exc c p { s with gl := gl }
      | .stuck => .stuck)) (hE : ∀ cls d H, W cls d σ H → E cls d H) : spM K f vs H Q E := by
  refine ⟨g.callee s.gl H, s.gl, ds, ok.callee, r.mono (callee_le g s.gl H), ?_⟩
  cases e : f ds s.gl with
  | ok d gl' =>
    rw [e] at h
    intro v g' H' t o' rv
    obtain ⟨t2, k2, o2⟩ := ok.back t o'
    exact h _ _ t2 k2 o2 v (show Rep K (g.back g') v d from rv.mono back_ge)
  | exc c p gl' =>
    rw [e] at h
    intro cls dd g' H' t o' rv
    obtain ⟨t2, k2, o2⟩ := ok.back t o'
    exact hE _ _ _ (h cls dd _ _ t2 k2 o2 (rv.mono back_ge))
  | stuck => rw [e] at h; exact h
end
section
variable {X : Cx} {W : WX} {e : Expr} {es : List Expr} {me : M} {m : S → Res (List D)} {pos p : Pos} {k : Nat} {f : Addr} {fd : FuncData} {ps : List Str} {fm : Fm} {x : Str}
theorem me_call (F : FnOk X.prog X.w X.K X.mg X.base (L2.CX X.prog X.w) k f fd ps (spM X.K fm)) (hr : Room k X.A) (hg : Gl X x) (hm : X.mg x = some (.ref f)) (hk : PySem.W.keepIn X.K (.ref f) = true) (hb : Binds X.K fd ps []) (tk : Takes X W)
    (ha : MA X W (e :: es) m) (hdb : (x == ("__debug__" : Str)) = false := by decide) (he : starEach (e :: es) X.env = (false, eval e X.env) :: starEach es X.env := by rfl) (hpl : (backTo pos (starEach es X.env)).any (·.1) = false := by rfl) :
    ME X W (.Call (.Name x p) (e :: es) [] pos) (mCall fm m) := by
  refine pe_imp (pe_callS F hr hg hm hk hb (fun σ => passAt tk σ) ha hdb he hpl) fun σ H Q ⟨g, s, ok, h⟩ => ?_
  refine ⟨g, s, ok, (PostE.bind h).mono fun ds g1 s1 H1 t1 k1 o1 h1 vs rs => ?_⟩
  exact sp_call o1 rs h1 fun _ _ _ h => h
end

/-! ### a def keeps its mirror's promise -/
theorem Ok.drop {K : PySem.W.Frag} {σ : L2.St} {g : G} {s : S} {H : Hp} (ok : Ok K g s σ H) : Ok K g ⟨[], s.gl⟩ [] H where
  sub := ok.sub
  cell := fun l o e => by
    cases l with
    | sl i => exact nomatch (show (none : Option MObj) = some o from e)
    | gl n => exact ok.cell (.gl n) o e
  inj := fun l l' o o' e e' z => by
    cases l with
    | sl i => exact nomatch (show (none : Option MObj) = some o from e)
    | gl n =>
      cases l' with
      | sl i => exact nomatch (show (none : Option MObj) = some o' from e')
      | gl n' => exact ok.inj (.gl n) (.gl n') o o' e e' z
  env := fun i x e => nomatch e
  len := rfl
  ng := ok.ng
  prot := fun a p => by
    obtain ⟨h1, h2, h3⟩ := ok.prot a p
    refine ⟨h1, h2, fun ⟨l, o, e, z⟩ => ?_⟩
    cases l with
    | sl i => exact nomatch (show (none : Option MObj) = some o from e)
    | gl n => exact h3 ⟨.gl n, o, e, z⟩
theorem env_start {K : PySem.W.Frag} {g : G} {vs : List V} {ds : List D} {N : List Str} (r : RepL K g vs ds) {i : Nat} {x : Slot} (e : (ds.map Slot.val ++ List.replicate (N.length - ds.length) Slot.none)[i]? = some x) : SlotRep K g (L2.start N vs) i x := by
  have hl := r.length
  by_cases h : i < ds.length
  · rw [List.getElem?_append_left (by simpa using h), List.getElem?_map] at e
    obtain ⟨d, hd⟩ : ∃ d, ds[i]? = some d := ⟨_, List.getElem?_eq_getElem h⟩
    rw [hd] at e
    cases e
    obtain ⟨v, hv, rv⟩ := r.get hd
    refine ⟨v, ?_, rv⟩
    unfold L2.start
    rw [List.getElem?_append_left (by simpa [hl] using h), List.getElem?_map, hv]
    rfl
  · rw [List.getElem?_append_right (by simpa using h)] at e
    have := (List.mem_replicate.mp (List.mem_of_getElem? e)).2
    subst this
    trivial
theorem Ok.enter {K : PySem.W.Frag} {g : G} {gl : List MObj} {H : Hp} {vs : List V} {ds : List D} {N : List Str} (ok : Ok K g ⟨[], gl⟩ [] H) (r : RepL K g vs ds) (hN : ds.length ≤ N.length) :
    Ok K g ⟨ds.map Slot.val ++ List.replicate (N.length - ds.length) Slot.none, gl⟩ (L2.start N vs) H := by
  have slc : ∀ i o, cellOf ⟨ds.map Slot.val ++ List.replicate (N.length - ds.length) Slot.none, gl⟩ (.sl i) = some o → False := by
    intro i o e
    have e' : (match (ds.map Slot.val ++ List.replicate (N.length - ds.length) Slot.none)[i]? with | some (.own o) => some o | _ => none) = some o := e
    split at e'
    · rename_i o' h
      rcases List.mem_append.mp (List.mem_of_getElem? h) with z | z
      · obtain ⟨d, _, z⟩ := List.mem_map.mp z
        cases z
      · cases (List.mem_replicate.mp z).2
    · cases e'
  refine ⟨ok.sub, fun l o e => ?_, fun l l' o o' e e' z => ?_, fun i x e => env_start r e, ?_, ok.ng, fun a p => ?_⟩
  · cases l with
    | sl i => exact (slc i o e).elim
    | gl n => exact ok.cell (.gl n) o e
  · cases l with
    | sl i => exact (slc i o e).elim
    | gl n =>
      cases l' with
      | sl i => exact (slc i o' e').elim
      | gl n' => exact ok.inj (.gl n) (.gl n') o o' e e' z
  · have hl := r.length
    unfold L2.start
    simp [hl]
  · obtain ⟨h1, h2, h3⟩ := ok.prot a p
    refine ⟨h1, h2, fun ⟨l, o, e, z⟩ => ?_⟩
    cases l with
    | sl i => exact (slc i o e).elim
    | gl n => exact h3 ⟨.gl n, o, e, z⟩
theorem fn_mirror {P : Program} {w : World} {K : PySem.W.Frag} {mg : Str → Option Value} {base : Heap} {x qual : Str} {params : Arguments} {body : List Stmt} {scope : Scope} {dvs : List V} {kws : List (Str × V)} {f : Addr} {fd : FuncData} {N ps : List Str} {k : Nat} {m : S → Res Out}
    (F : FunD K x qual params body scope dvs kws f fd) (Sc : FnScope N ps scope) (hN : ps.length ≤ N.length)
    (hbody : ∀ (cdv : Value) (A : Around) (outer : List Env) (s : Shared) (H : Hp) (E : XK), Room k (A.deeper (envOfC qual scope s.heap.objs.size f cdv)) →
      MSs (cxOf (L2.CX P w) P w K mg base N qual scope f cdv A outer s H E) (fun cls d _ H => E cls d H) body m) :
    FnOk P w K mg base (L2.CX P w) (k + 1) f fd ps (spM K (mDef ps.length N.length m)) := by
  refine F.ok Sc (fun vs H Q E h => ?_) (fun cdv A outer s H vs Q E hr h => ⟨_, hbody cdv A outer s H E hr, ?_⟩)
  · obtain ⟨g, gl, ds, ok, r, h⟩ := h
    unfold mDef at h
    by_cases z : ds.length = ps.length
    · exact r.length.trans z
    · rw [if_neg z] at h; exact h.elim
  · obtain ⟨g, gl, ds, ok, r, h⟩ := h
    unfold mDef at h
    by_cases z : ds.length = ps.length
    · rw [if_pos z] at h
      have o1 := ok.enter (N := N) r (by rw [z]; exact hN)
      refine ⟨g, _, o1, ?_⟩
      rw [z]
      cases e : m ⟨ds.map Slot.val ++ List.replicate (N.length - ps.length) Slot.none, gl⟩ with
      | ok a s' =>
        rw [e] at h
        cases a with
        | nx => exact fun σ' g' H' t o' => h _ _ _ t o'.drop .non
        | rt d => exact fun v σ' g' H' t o' rv => h _ _ _ t o'.drop rv
        | bk => exact h.elim
        | ct => exact h.elim
      | exc c p s' => rw [e] at h; exact fun σ' cls d g' H' t o' rv => h _ _ _ _ t o'.drop rv
      | stuck => rw [e] at h; exact h
    · rw [if_neg z] at h; exact h.elim
end MI
/-! # Statements -/
namespace MI
open PySem L2

section
variable {K : PySem.W.Frag} {W : WX} {σ : St} {g : G} {s : S} {H : Hp} {D : Ends}
theorem PostS.nx (h : PostS K W g s H D (.ok .nx s)) (o : Ok K g s σ H) : D.nx σ H := h σ g H (Step.refl _ _) o
end
/-! ### stores to names -/
def G.put (g : G) (i : Nat) (a : Addr) : G := { g with adr := fun l => if l = .sl i then a else g.adr l }
def assign (i : Nat) : RV → S → Option S
  | .d x, s => if i < s.env.length then some { s with env := s.env.set i (.val x) } else none
  | .new o, s => if i < s.env.length then some { s with env := s.env.set i (.own o) } else none
  | .at j, s => match leak (.at j) s with
    | some (x, s1) => if i < s1.env.length then some { s1 with env := s1.env.set i (.val x) } else none
    | none => none
section
variable {K : PySem.W.Frag} {W : WX} {σ : St} {g : G} {s : S} {H : Hp}
theorem cellOf_set {i : Nat} {x : Slot} (hi : i < s.env.length) {l : Loc} {o : MObj} (h : cellOf { s with env := s.env.set i x } l = some o) :
    (l = .sl i ∧ x = .own o) ∨ (l ≠ .sl i ∧ cellOf s l = some o) := by
  cases l with
  | gl n => exact .inr ⟨(fun z => nomatch z), h⟩
  | sl j =>
    have h' : (match (s.env.set i x)[j]? with | some (.own o) => some o | _ => none) = some o := h
    by_cases z : j = i
    · subst z
      rw [List.getElem?_set_self hi] at h'
      refine .inl ⟨rfl, ?_⟩
      cases x with
      | own w => cases h'; rfl
      | _ => cases h'
    · rw [List.getElem?_set_ne (Ne.symm z)] at h'
      exact .inr ⟨fun q => z (by cases q; rfl), h'⟩
theorem Ok.setVal {i : Nat} {v : V} {x : D} (ok : Ok K g s σ H) (r : Rep K g v x) (hi : i < s.env.length) : Ok K g { s with env := s.env.set i (.val x) } (σ.set i (some v)) H := by
  have sub : ∀ {l o}, cellOf { s with env := s.env.set i (.val x) } l = some o → cellOf s l = some o := fun h => by
    rcases cellOf_set hi h with ⟨_, z⟩ | ⟨_, z⟩
    · cases z
    · exact z
  refine ⟨ok.sub, fun l o e => ok.cell l o (sub e), fun l l' o o' e e' z => ok.inj l l' o o' (sub e) (sub e') z, fun j y e => ?_, by simpa using ok.len, ok.ng, fun a p => ?_⟩
  · have hi' : i < σ.length := by rw [← ok.len]; exact hi
    by_cases z : j = i
    · subst z
      have e' : (s.env.set j (.val x))[j]? = some y := e
      rw [List.getElem?_set_self hi] at e'
      cases e'
      exact ⟨v, List.getElem?_set_self hi', r⟩
    · have e' : (s.env.set i (.val x))[j]? = some y := e
      rw [List.getElem?_set_ne (Ne.symm z)] at e'
      have := ok.env j y e'
      cases y with
      | none => trivial
      | val d => obtain ⟨w, q, r⟩ := this; exact ⟨w, by rw [List.getElem?_set_ne (Ne.symm z)]; exact q, r⟩
      | own o => show (σ.set i (some v))[j]? = _; rw [List.getElem?_set_ne (Ne.symm z)]; exact this
  · obtain ⟨h1, h2, h3⟩ := ok.prot a p
    exact ⟨h1, h2, fun ⟨l, o, e, z⟩ => h3 ⟨l, o, sub e, z⟩⟩
theorem put_le {i : Nat} {a : Addr} : GLe g (g.put i a) := by
  refine ⟨Sub.refl _, Nat.le_refl _, fun n _ => ?_⟩
  show (if Loc.gl n = Loc.sl i then a else g.adr (.gl n)) = _
  rw [if_neg (by intro z; cases z)]
theorem put_step {i : Nat} {a : Addr} : Step g H (g.put i a) H := ⟨put_le, rfl, fun _ _ => rfl⟩
theorem put_same {i : Nat} {a : Addr} : (g.put i a).adr (.sl i) = a := if_pos rfl
theorem put_ne {i : Nat} {a : Addr} {l : Loc} (h : l ≠ .sl i) : (g.put i a).adr l = g.adr l := if_neg h
theorem Ok.setOwn {i : Nat} {a : Addr} {o : MObj} (ok : Ok K g s σ H) (hi : i < s.env.length) (n : g.F a = none) (np : ¬ g.P a) (nl : ¬ Live g s a) (q : ObjRep K g H a o) :
    Ok K (g.put i a) { s with env := s.env.set i (.own o) } (σ.set i (some (.ref a))) H := by
  have cs : ∀ {l w}, cellOf { s with env := s.env.set i (.own o) } l = some w → (l = .sl i ∧ w = o) ∨ (l ≠ .sl i ∧ cellOf s l = some w) := by
    intro l w h
    rcases cellOf_set hi h with ⟨e1, z⟩ | z
    · cases z; exact .inl ⟨e1, rfl⟩
    · exact .inr z
  refine ⟨ok.sub, fun l w e => ?_, fun l l' w w' e e' z => ?_, fun j y e => ?_, by simpa using ok.len, ok.ng, fun b p => ?_⟩
  · rcases cs e with ⟨rfl, rfl⟩ | ⟨hl, e⟩
    · rw [put_same]; exact ⟨n, q.mono put_le rfl⟩
    · rw [put_ne hl]
      obtain ⟨f, r⟩ := ok.cell l w e
      exact ⟨f, r.mono put_le rfl⟩
  · rcases cs e with ⟨e1, _⟩ | ⟨hl, e1⟩
    · rcases cs e' with ⟨e2, _⟩ | ⟨hl', e2⟩
      · rw [e1, e2]
      · rw [e1, put_same, put_ne hl'] at z
        exact absurd ⟨l', w', e2, z.symm⟩ nl
    · rcases cs e' with ⟨e2, _⟩ | ⟨hl', e2⟩
      · rw [e2, put_same, put_ne hl] at z
        exact absurd ⟨l, w, e1, z⟩ nl
      · rw [put_ne hl, put_ne hl'] at z
        exact ok.inj l l' w w' e1 e2 z
  · have hi' : i < σ.length := by rw [← ok.len]; exact hi
    by_cases z : j = i
    · subst z
      have e' : (s.env.set j (.own o))[j]? = some y := e
      rw [List.getElem?_set_self hi] at e'
      cases e'
      show (σ.set j (some (.ref a)))[j]? = _
      rw [put_same, List.getElem?_set_self hi']
    · have e' : (s.env.set i (.own o))[j]? = some y := e
      rw [List.getElem?_set_ne (Ne.symm z)] at e'
      have := ok.env j y e'
      cases y with
      | none => trivial
      | val d => obtain ⟨w, q, r⟩ := this; exact ⟨w, by rw [List.getElem?_set_ne (Ne.symm z)]; exact q, r.mono put_le⟩
      | own w =>
        show (σ.set i (some (.ref a)))[j]? = _
        rw [List.getElem?_set_ne (Ne.symm z), put_ne (fun q => z (by cases q; rfl))]; exact this
  · obtain ⟨h1, h2, h3⟩ := ok.prot b p
    refine ⟨h1, h2, fun ⟨l, w, e, z⟩ => ?_⟩
    rcases cs e with ⟨rfl, rfl⟩ | ⟨hl, e⟩
    · rw [put_same] at z
      exact np (z ▸ p)
    · rw [put_ne hl] at z
      exact h3 ⟨l, w, e, z⟩
theorem assign_ok {i : Nat} {v : V} {r : RV} {s' : S} (ok : Ok K g s σ H) (h : RepRV K g s H v r) (e : assign i r s = some s') :
    ∃ g', Step g H g' H ∧ Ok K g' s' (σ.set i (some v)) H := by
  cases r with
  | d x =>
    simp only [assign] at e
    split at e
    · rename_i hi
      cases e
      exact ⟨g, Step.refl _ _, ok.setVal h hi⟩
    · cases e
  | new o =>
    obtain ⟨a, rfl, n, np, nl, q⟩ := h
    simp only [assign] at e
    split at e
    · rename_i hi
      cases e
      exact ⟨_, put_step, ok.setOwn hi n np nl q⟩
    · cases e
  | «at» j =>
    simp only [assign] at e
    split at e
    · rename_i x s1 e1
      split at e
      · rename_i hi
        cases e
        obtain ⟨g1, t1, k1, o1, r1⟩ := leak_ok ok h e1
        exact ⟨g1, t1, o1.setVal r1 hi⟩
      · cases e
    · cases e
end

/-! ### small statements -/
def mNx : S → Res Out := fun s => .ok .nx s
def mSeq (a b : S → Res Out) : S → Res Out := fun s => match a s with
  | .ok .nx s1 => b s1
  | r => r
def mExpr (m : M) : S → Res Out := fun s => (m s).bind fun _ s1 => .ok .nx s1
def mRet (m : M) : S → Res Out := fun s => (mLeak m s).bind fun d s1 => .ok (.rt d) s1
def mRetN : S → Res Out := fun s => .ok (.rt .non) s
def mIfS (t : S → Res Bool) (a b : S → Res Out) : S → Res Out := fun s => (t s).bind fun c s1 => if c = true then a s1 else b s1
def mSet (i : Nat) (m : M) : S → Res Out := fun s => (m s).bind fun r s1 => match assign i r s1 with
  | some s2 => .ok .nx s2
  | none => .stuck
def mBrk : S → Res Out := fun s => .ok .bk s
def mCont : S → Res Out := fun s => .ok .ct s
section
variable {X : Cx} {W : WX} {e c : Expr} {me : M} {t : S → Res Bool} {st : Stmt} {a b rest : List Stmt} {ma mb : S → Res Out} {pos : Pos}
theorem mss_nil : MSs X W [] mNx := pss_imp pss_nil fun D σ H ⟨g, s, ok, h⟩ => PostS.nx h ok
theorem mss_cons (h1 : MS X W st ma) (h2 : MSs X W rest mb) : MSs X W (st :: rest) (mSeq ma mb) := by
  refine pss_imp (pss_cons h1 h2) fun D σ H ⟨g, s, ok, h⟩ => ⟨g, s, ok, ?_⟩
  unfold mSeq at h
  cases e : ma s with
  | ok o s1 =>
    simp only [e] at h
    cases o with
    | nx => exact fun σ' g' H' t o' => ⟨g', s1, o', PostS.after h t⟩
    | rt d => exact h
    | bk => exact h
    | ct => exact h
  | exc c p s1 => simp only [e] at h; exact h
  | stuck => simp only [e] at h; exact h
theorem mss_one (h1 : MS X W st ma) : MSs X W [st] ma := pss_one h1
theorem ms_pass : MS X W (.Pass pos) mNx := ps_imp ps_pass fun D σ H ⟨g, s, ok, h⟩ => PostS.nx h ok
theorem ms_break : MS X W (.Break pos) mBrk := ps_imp ps_break fun D σ H ⟨g, s, ok, h⟩ => h σ g H (Step.refl _ _) ok
theorem ms_continue : MS X W (.Continue pos) mCont := ps_imp ps_continue fun D σ H ⟨g, s, ok, h⟩ => h σ g H (Step.refl _ _) ok
theorem ms_doc {x j p p'} : MS X W (.Expr (.Constant (.str x) j p) p') mNx := ps_imp ps_doc fun D σ H ⟨g, s, ok, h⟩ => PostS.nx h ok
theorem ms_expr (he : ME X W e me) (hs : swapsWith e none pos.line X.env = pure false := by rfl) : MS X W (.Expr e pos) (mExpr me) := by
  refine ps_imp (ps_expr he hs) fun D σ H ⟨g, s, ok, h⟩ => ?_
  exact ⟨g, s, ok, (PostS.bind h).mono fun r g1 s1 H1 t1 k1 o1 h1 v rv => PostS.nx h1 o1⟩
theorem ms_ret (he : ME X W e me) : MS X W (.Return (some e) pos) (mRet me) := by
  refine ps_imp (ps_ret he) fun D σ H ⟨g, s, ok, h⟩ => ?_
  exact tM_leak ok (PostS.bind h) fun d g1 s1 H1 v t1 k1 o1 rv h1 => h1 v σ g1 H1 (Step.refl _ _) o1 rv
theorem ms_retN : MS X W (.Return none pos) mRetN := ps_imp ps_retN fun D σ H ⟨g, s, ok, h⟩ => h .non σ g H (Step.refl _ _) ok .non
theorem ms_if (hc : MT X W c t) (ha : MSs X W a ma) (hb : MSs X W b mb) : MS X W (.If c a b pos) (mIfS t ma mb) := by
  refine ps_imp (ps_if hc ha hb) fun D σ H ⟨g, s, ok, h⟩ => ?_
  refine ⟨g, s, ok, (PostS.bind h).mono fun c g1 s1 H1 t1 k1 o1 h1 => ?_⟩
  cases c with
  | true => rw [if_pos rfl] at h1; show (if true = true then _ else _); rw [if_pos rfl]; exact ⟨g1, s1, o1, h1⟩
  | false => rw [if_neg (by decide)] at h1; show (if false = true then _ else _); rw [if_neg (by decide)]; exact ⟨g1, s1, o1, h1⟩
theorem ms_set {i : Nat} {x : Str} {pos' : Pos} (he : ME X W e me) (hN : X.N.Nodup) (hi : X.N[i]? = some x := by rfl) (hx : L2.Loc X.env.scope x := by first | exact Or.inl rfl | exact Or.inr rfl)
    (hs : swapsWith e (some (.Name x pos')) pos.line X.env = pure false := by rfl) (hf : X.fn x = true ∨ X.env.scope.names.lookup x = some .local := by first | exact .inl rfl | exact .inr rfl) :
    MS X W (.Assign [.Name x pos'] e pos) (mSet i me) := by
  refine ps_imp (ps_set hN hi hx he hs hf) fun D σ H ⟨g, s, ok, h⟩ => ?_
  refine ⟨g, s, ok, (PostS.bind h).mono fun r g1 s1 H1 t1 k1 o1 h1 v rv => ?_⟩
  show D.nx (σ.set i (some v)) H1
  split at h1
  · rename_i s2 e2
    obtain ⟨g2, t2, o2⟩ := assign_ok o1 rv e2
    exact h1 _ g2 H1 t2 o2
  · exact h1.elim
end
end MI
/-! # Several values at once, stored to names -/
namespace MI
open PySem L2

inductive RepRVs (K : PySem.W.Frag) (g : G) (s : S) (H : Hp) : List V → List RV → List Addr → Prop
  | nil : RepRVs K g s H [] [] []
  | d {v : V} {x : D} {vs : List V} {rs : List RV} {L : List Addr} : Rep K g v x → RepRVs K g s H vs rs L → RepRVs K g s H (v :: vs) (.d x :: rs) L
  | new {a : Addr} {o : MObj} {vs : List V} {rs : List RV} {L : List Addr} : g.F a = none → ¬ g.P a → ¬ Live g s a → ObjRep K g H a o → a ∉ L → RepRVs K g s H vs rs L → RepRVs K g s H (.ref a :: vs) (.new o :: rs) (a :: L)
abbrev kR (K : PySem.W.Frag) (Q : List V → Hp → Prop) : List RV → G → S → Hp → Prop := fun r g s H => ∀ v L, RepRVs K g s H v r L → Q v H
def tMR (K : PySem.W.Frag) (W : WX) (m : S → Res (List RV)) : TA := fun σ H Q => ∃ g s, Ok K g s σ H ∧ PostE K W σ g s H (kR K Q) (m s)
def MR (X : Cx) (W : WX) (es : List Expr) (m : S → Res (List RV)) : Prop := PA X es (tMR X.K W m)
def mHold (a : M) : M := fun s => (a s).bind fun r s1 => match r with
  | .at i => match leak (.at i) s1 with
    | some (d, s2) => .ok (.d d) s2
    | none => .stuck
  | r => .ok r s1
def mRNil : S → Res (List RV) := fun s => .ok [] s
def mRCons (a : M) (r : S → Res (List RV)) : S → Res (List RV) := fun s => (mHold a s).bind fun x s1 => (r s1).bind fun xs s2 => .ok (x :: xs) s2
def G.hold (g : G) (a : Addr) : G := { g with P := fun b => g.P b ∨ b = a }
def G.wP (g : G) (P : Addr → Prop) : G := { g with P := P }
section
variable {K : PySem.W.Frag} {W : WX} {σ : St} {g : G} {s : S} {H : Hp}
theorem wP_le {P : Addr → Prop} : GLe g (g.wP P) := ⟨Sub.refl _, Nat.le_refl _, fun _ _ => rfl⟩
theorem wP_ge {P : Addr → Prop} : GLe (g.wP P) g := ⟨Sub.refl _, Nat.le_refl _, fun _ _ => rfl⟩
theorem Ok.wP {P : Addr → Prop} (ok : Ok K g s σ H) (h : ∀ a, P a → (∃ u, H a = some u) ∧ g.F a = none ∧ ¬ Live g s a) : Ok K (g.wP P) s σ H :=
  ⟨ok.sub, fun l o e => ⟨(ok.cell l o e).1, (ok.cell l o e).2.mono wP_le rfl⟩, ok.inj, fun i x e => (ok.env i x e).mono wP_le (SlKeep.refl _), ok.len, ok.ng, h⟩
theorem Ok.hold {a : Addr} {u : HO} (ok : Ok K g s σ H) (h : H a = some u) (n : g.F a = none) (nl : ¬ Live g s a) : Ok K (g.hold a) s σ H :=
  ok.wP (P := fun b => g.P b ∨ b = a) fun b p => by
    rcases p with p | rfl
    · exact ok.prot b p
    · exact ⟨⟨u, h⟩, n, nl⟩
theorem Ok.unhold {a : Addr} {g0 : G} (ok : Ok K g s σ H) (e : g.P = (g0.hold a).P) : Ok K (g.wP g0.P) s σ H :=
  ok.wP fun b p => ok.prot b (by rw [e]; exact .inl p)
theorem Step.unhold {a : Addr} {g' : G} {H' : Hp} (t : Step (g.hold a) H g' H') : Step g H (g'.wP g.P) H' :=
  ⟨⟨t.le.F, t.le.ng, t.le.adr⟩, rfl, fun b p => t.keep b (.inl p)⟩
theorem ObjRep.wP {P : Addr → Prop} {a : Addr} {o : MObj} (q : ObjRep K g H a o) : ObjRep K (g.wP P) H a o := q.mono wP_le rfl
theorem RepRVs.unhold {a : Addr} {vs : List V} {rs : List RV} {L : List Addr} {g0 : G} (e : g.P = (g0.hold a).P) (r : RepRVs K g s H vs rs L) : RepRVs K (g.wP g0.P) s H vs rs L ∧ a ∉ L := by
  induction r with
  | nil => exact ⟨.nil, by simp⟩
  | d x _ ih => exact ⟨.d (Rep.mono wP_le x) ih.1, ih.2⟩
  | @new b _ _ _ _ n np nl q m _ ih =>
    refine ⟨.new n (fun p => np (by rw [e]; exact .inl p)) nl q.wP m ih.1, fun z => ?_⟩
    rcases List.mem_cons.mp z with z | z
    · exact np (by rw [e]; exact .inr z.symm)
    · exact ih.2 z
theorem PostE.hold {α : Type} {k : α → G → S → Hp → Prop} {a : Addr} {r : Res α} (h : PostE K W σ g s H k r) :
    PostE K W σ (g.hold a) s H (fun b g' s' H' => k b (g'.wP g.P) s' H' ∧ H' a = H a ∧ g'.F a = none ∧ ¬ Live g' s' a ∧ g'.P = (g.hold a).P ∧ Step g H (g'.wP g.P) H' ∧ SlKeep g (g'.wP g.P)) r := by
  cases r with
  | ok b s' =>
    intro g' H' t sk o
    have pa : g'.P a := by rw [t.P]; exact .inr rfl
    obtain ⟨_, f, l⟩ := o.prot a pa
    exact ⟨h _ H' t.unhold sk (o.unhold t.P), t.keep a (.inr rfl), f, l, t.P, t.unhold, sk⟩
  | exc c p s' =>
    intro cls d g' H' t sk o rv
    exact h cls d _ H' t.unhold sk (o.unhold t.P) (rv.mono wP_le)
  | stuck => exact h
end
section
variable {X : Cx} {W : WX} {e : Expr} {es : List Expr} {me : M} {m : S → Res (List RV)} {pos : Pos}
theorem mr_nil : MR X W [] mRNil := pa_imp pa_nil fun σ H Q ⟨g, s, ok, h⟩ => PostE.done h ok _ _ .nil
theorem mr_cons (ha : ME X W e me) (hr : MR X W es m) (hs : starEach (e :: es) X.env = (false, eval e X.env) :: starEach es X.env := by rfl) : MR X W (e :: es) (mRCons me m) := by
  refine pa_imp (pa_cons ha hr hs) fun σ H Q ⟨g, s, ok, h⟩ => ?_
  refine ⟨g, s, ok, (PostE.bind (PostE.bind h)).mono fun r g1 s1 H1 t1 k1 o1 h1 v rv => ?_⟩
  have dcase : ∀ {x : D} {g2 : G} {s2 : S}, Step g1 H1 g2 H1 → SlKeep g1 g2 → Ok X.K g2 s2 σ H1 → Rep X.K g2 v x →
      PostE X.K W σ g2 s2 H1 (kR X.K Q) ((m s2).bind fun xs s3 => .ok (.d x :: xs) s3) → tMR X.K W m σ H1 (fun xs H2 => Q (v :: xs) H2) := by
    intro x g2 s2 t2 k2 o2 rx h2
    refine ⟨g2, s2, o2, (PostE.bind h2).mono fun xs g3 s3 H3 t3 k3 o3 h3 vs L rs => ?_⟩
    exact PostE.done h3 o3 _ _ (.d (rx.mono t3.le) rs)
  cases r with
  | d x => exact dcase (Step.refl _ _) (SlKeep.refl _) o1 rv (PostE.done h1 o1)
  | «at» i =>
    cases e1 : leak (.at i) s1 with
    | none => simp only [e1] at h1; exact h1.elim
    | some p =>
      obtain ⟨x, s2⟩ := p
      simp only [e1] at h1
      obtain ⟨g2, t2, k2, o2, r2⟩ := leak_ok o1 rv e1
      exact dcase t2 k2 o2 r2 (h1 g2 H1 t2 k2 o2)
  | new o =>
    obtain ⟨a, rfl, n, np, nl, q⟩ := rv
    obtain ⟨u, hu⟩ := q.some
    have h2 := PostE.done h1 o1
    refine ⟨g1.hold a, s1, o1.hold hu n nl, ((PostE.bind h2).hold (a := a)).mono fun xs g3 s3 H3 t3 k3 o3 ⟨h3, e3, f3, l3, p3, st3, sk3⟩ vs L rs => ?_⟩
    obtain ⟨rs', nm⟩ := rs.unhold p3
    have q3 : ObjRep X.K (g3.wP g1.P) H3 a o := q.mono st3.le e3
    exact PostE.done h3 (o3.unhold p3) _ _ (.new f3 np l3 q3 nm rs')
end
/-! ### stores -/
def assignAll : List Nat → List RV → S → Option S
  | [], [], s => some s
  | i :: is, r :: rs, s => match assign i r s with
    | some s1 => assignAll is rs s1
    | none => none
  | _, _, _ => none
def setAll (σ : St) : List Nat → List V → St
  | i :: is, v :: vs => setAll (σ.set i (some v)) is vs
  | _, _ => σ
section
variable {K : PySem.W.Frag} {W : WX}
theorem assignAll_ok : ∀ {is : List Nat} {vs : List V} {rs : List RV} {L : List Addr} {σ : St} {g : G} {s s' : S} {H : Hp}, Ok K g s σ H → RepRVs K g s H vs rs L → assignAll is rs s = some s' →
    ∃ g', Step g H g' H ∧ Ok K g' s' (setAll σ is vs) H := by
  intro is
  induction is with
  | nil =>
    intro vs rs L σ g s s' H ok r e
    cases r with
    | nil => cases e; exact ⟨g, Step.refl _ _, ok⟩
    | d _ _ => cases e
    | new _ _ _ _ _ _ => cases e
  | cons i is ih =>
    intro vs rs L σ g s s' H ok r e
    cases r with
    | nil => cases e
    | @d v x vs rs L rx r =>
      simp only [assignAll] at e
      split at e
      · rename_i s1 e1
        simp only [assign] at e1
        split at e1
        · rename_i hi
          cases e1
          have o1 := ok.setVal rx hi
          have r1 : RepRVs K g { s with env := s.env.set i (.val x) } H vs rs L := by
            clear ih e
            induction r with
            | nil => exact .nil
            | d x _ ih => exact .d x ih
            | new n np nl q m _ ih =>
              refine .new n np (fun ⟨l, w, z, za⟩ => nl ?_) q m ih
              rcases cellOf_set hi z with ⟨_, z⟩ | ⟨_, z⟩
              · cases z
              · exact ⟨l, w, z, za⟩
          exact ih o1 r1 e
        · cases e1
      · cases e
    | @new a o vs rs L n np nl q m r =>
      simp only [assignAll] at e
      split at e
      · rename_i s1 e1
        simp only [assign] at e1
        split at e1
        · rename_i hi
          cases e1
          have o1 := ok.setOwn hi n np nl q
          have r1 : RepRVs K (g.put i a) { s with env := s.env.set i (.own o) } H vs rs L := by
            clear ih e
            induction r with
            | nil => exact .nil
            | d x _ ih => exact .d (Rep.mono put_le x) (ih (by simpa using m))
            | @new b w _ _ _ n2 np2 nl2 q2 m2 _ ih2 =>
              have ne : b ≠ a := fun z => m (by rw [z]; exact List.mem_cons_self)
              refine .new n2 np2 (fun ⟨l, w, z, za⟩ => ?_) (q2.mono put_le rfl) m2 (ih2 fun z => m (List.mem_cons_of_mem _ z))
              rcases cellOf_set hi z with ⟨rfl, _⟩ | ⟨hl, z⟩
              · rw [put_same] at za; exact ne za.symm
              · rw [put_ne hl] at za; exact nl2 ⟨l, w, z, za⟩
          obtain ⟨g2, t2, o2⟩ := ih o1 r1 e
          exact ⟨g2, (put_step (i := i) (a := a)).trans t2, o2⟩
        · cases e1
      · cases e
end
def mParN (is : List Nat) (m : S → Res (List RV)) : S → Res Out := fun s => (m s).bind fun rs s1 => match assignAll is rs s1 with
  | some s2 => .ok .nx s2
  | none => .stuck
theorem RepRVs.len {K : PySem.W.Frag} {g : G} {s : S} {H : Hp} {vs : List V} {rs : List RV} {L : List Addr} (r : RepRVs K g s H vs rs L) : vs.length = rs.length := by
  induction r with
  | nil => rfl
  | d _ _ ih => simp [ih]
  | new _ _ _ _ _ _ ih => simp [ih]
theorem assignAll_len : ∀ {is : List Nat} {rs : List RV} {s s' : S}, assignAll is rs s = some s' → is.length = rs.length
  | [], [], _, _, _ => rfl
  | [], _ :: _, _, _, e => by cases e
  | _ :: _, [], _, _, e => by cases e
  | i :: is, r :: rs, s, s', e => by
    simp only [assignAll] at e
    split at e
    · rw [List.length_cons, List.length_cons, assignAll_len e]
    · cases e
section
variable {X : Cx} {W : WX} {a b c : Expr} {m : S → Res (List RV)}
theorem ms_par {i j : Nat} {x y : Str} {px py pt pos : Pos} {kt k2 pt2} (hc : X.calm = true) (hN : X.N.Nodup) (ha : MR X W [a, b] m) (hi : X.N[i]? = some x := by rfl) (hj : X.N[j]? = some y := by rfl) (hij : i ≠ j := by decide)
    (hx : X.env.scope.names.lookup x = some .local := by rfl) (hy : X.env.scope.names.lookup y = some .local := by rfl)
    (hw : swappedStores [.Tuple [.Name x px, .Name y py] kt pt] (.Tuple [a, b] k2 pt2) X.env = pure (some [x, y]) := by rfl)
    (hs : swapsWithSole [.Tuple [.Name x px, .Name y py] kt pt] (.Tuple [a, b] k2 pt2) pos.line X.env = pure false := by rfl) :
    MS X W (.Assign [.Tuple [.Name x px, .Name y py] kt pt] (.Tuple [a, b] k2 pt2) pos) (mParN [i, j] m) := by
  refine ps_imp (ps_par hc hN hi hj hij hx hy ha hw hs) fun D σ H ⟨g, s, ok, h⟩ => ?_
  refine ⟨g, s, ok, (PostS.bind h).mono fun rs g1 s1 H1 t1 k1 o1 h1 vs L rv => ?_⟩
  split at h1
  · rename_i s2 e
    obtain ⟨g2, t2, o2⟩ := assignAll_ok o1 rv e
    have hl := (assignAll_len e).trans rv.len.symm
    obtain ⟨v, w, rfl⟩ : ∃ v w, vs = [v, w] := by
      match vs, hl with
      | [v, w], _ => exact ⟨v, w, rfl⟩
    exact ⟨v, w, rfl, h1 _ g2 H1 t2 o2⟩
  · exact h1.elim
theorem ms_par3 {i j l : Nat} {x y z : Str} {px py pz pt pos : Pos} {kt k2 pt2} (hc : X.calm = true) (hN : X.N.Nodup) (ha : MR X W [a, b, c] m) (hi : X.N[i]? = some x := by rfl) (hj : X.N[j]? = some y := by rfl) (hl : X.N[l]? = some z := by rfl)
    (hij : i ≠ j := by decide) (hil : i ≠ l := by decide) (hjl : j ≠ l := by decide)
    (hx : X.env.scope.names.lookup x = some .local := by rfl) (hy : X.env.scope.names.lookup y = some .local := by rfl) (hz : X.env.scope.names.lookup z = some .local := by rfl)
    (hw : swappedStores [.Tuple [.Name x px, .Name y py, .Name z pz] kt pt] (.Tuple [a, b, c] k2 pt2) X.env = pure (some [x, y, z]) := by rfl)
    (hs : swapsWithSole [.Tuple [.Name x px, .Name y py, .Name z pz] kt pt] (.Tuple [a, b, c] k2 pt2) pos.line X.env = pure false := by rfl) :
    MS X W (.Assign [.Tuple [.Name x px, .Name y py, .Name z pz] kt pt] (.Tuple [a, b, c] k2 pt2) pos) (mParN [i, j, l] m) := by
  refine ps_imp (ps_par3 hc hN hi hj hl hij hil hjl hx hy hz ha hw hs) fun D σ H ⟨g, s, ok, h⟩ => ?_
  refine ⟨g, s, ok, (PostS.bind h).mono fun rs g1 s1 H1 t1 k1 o1 h1 vs L rv => ?_⟩
  split at h1
  · rename_i s2 e
    obtain ⟨g2, t2, o2⟩ := assignAll_ok o1 rv e
    have hl := (assignAll_len e).trans rv.len.symm
    obtain ⟨v, w, u, rfl⟩ : ∃ v w u, vs = [v, w, u] := by
      match vs, hl with
      | [v, w, u], _ => exact ⟨v, w, u, rfl⟩
    exact ⟨v, w, u, rfl, h1 _ g2 H1 t2 o2⟩
  · exact h1.elim
end

/-! ### a tuple's parts to names -/
/-- targets that are plain names, by their slots -/
def gNames : List Nat → TGs
  | [] => gNil
  | i :: is => gCons (gName i) (gNames is)
theorem gNames_set : ∀ {is : List Nat} {vs : List V} {σ : St} {H : Hp} {Q : St → Hp → Prop}, is.length = vs.length → Q (setAll σ is vs) H → gNames is vs σ H Q
  | [], [], _, _, _, _, q => ⟨rfl, q⟩
  | i :: is, v :: vs, σ, H, Q, hl, q => ⟨v, vs, rfl, gNames_set (is := is) (vs := vs) (σ := σ.set i (some v)) (by simpa using hl) q⟩
def mUnp (is : List Nat) (m : M) : S → Res Out := fun s => (mLeak m s).bind fun d s1 => match d with
  | .tup ds => match assignAll is (ds.map .d) s1 with
    | some s2 => .ok .nx s2
    | none => .stuck
  | _ => .stuck
theorem repRVs_d {K : PySem.W.Frag} {g : G} {s : S} {H : Hp} : ∀ {vs : List V} {ds : List D}, RepL K g vs ds → RepRVs K g s H vs (ds.map .d) []
  | _, _, .nil => .nil
  | _, _, .cons a b => .d a (repRVs_d b)
section
variable {X : Cx} {W : WX} {e : Expr} {me : M} {ts es : List Expr} {is : List Nat} {m : S → Res (List RV)}
theorem ms_unp {kt : Nat} {pt pos : Pos} (hc : X.calm = true) (he : ME X W e me) (ht : PGs X ts (gNames is))
    (hn : (assignEach ts X.env).length = is.length := by rfl) (hst : (assignEach ts X.env).findIdx? (·.1) = none := by rfl)
    (hs : swapsWithSole [.Tuple ts kt pt] e pos.line X.env = pure false := by rfl) (hw : swappedStores [.Tuple ts kt pt] e X.env = pure none := by rfl)
    (h1 : (assignEach [.Tuple ts kt pt] X.env).map (·.2) = [PySem.assign (.Tuple ts kt pt) X.env] := by rfl) :
    MS X W (.Assign [.Tuple ts kt pt] e pos) (mUnp is me) := by
  refine ps_imp (ps_asg he (pg_tup hc ht hn hst) hs hw h1) fun D σ H ⟨g, s, ok, h⟩ => ?_
  refine tM_leak ok (PostS.bind h) fun d g1 s1 H1 v t1 k1 o1 rv h1 => ?_
  split at h1
  · rename_i ds
    split at h1
    · rename_i s2 e
      cases rv with
      | tup hq rl =>
        obtain ⟨g2, t2, o2⟩ := assignAll_ok o1 (repRVs_d rl) e
        have hl := (assignAll_len e).trans ((List.length_map _).trans rl.length.symm)
        exact ⟨_, _, rfl, sqT_mono o1.sub hq, hl.symm, gNames_set hl (h1 _ g2 H1 t2 o2)⟩
    · exact h1.elim
  · exact h1.elim
/-- (x, y, ..) = (a, b, ..) where the tuple is made: the parts may be new objects -/
theorem ms_tupN {kt kt2 : Nat} {pt pt2 pos : Pos} (hc : X.calm = true) (he : MR X W es m) (ht : PGs X ts (gNames is)) (hl20 : is.length ≤ 100)
    (hn : (assignEach ts X.env).length = is.length := by rfl) (hst : (assignEach ts X.env).findIdx? (·.1) = none := by rfl)
    (hs : swapsWithSole [.Tuple ts kt pt] (.Tuple es kt2 pt2) pos.line X.env = pure false := by rfl) (hw : swappedStores [.Tuple ts kt pt] (.Tuple es kt2 pt2) X.env = pure none := by rfl)
    (h1 : (assignEach [.Tuple ts kt pt] X.env).map (·.2) = [PySem.assign (.Tuple ts kt pt) X.env] := by rfl) :
    MS X W (.Assign [.Tuple ts kt pt] (.Tuple es kt2 pt2) pos) (mParN is m) := by
  refine ps_imp (ps_asg (pe_tup he) (pg_tup hc ht hn hst) hs hw h1) fun D σ H ⟨g, s, ok, h⟩ => ?_
  refine ⟨g, s, ok, (PostS.bind h).mono fun rs g1 s1 H1 t1 k1 o1 h1 vs L rv => ?_⟩
  split at h1
  · rename_i s2 e
    obtain ⟨g2, t2, o2⟩ := assignAll_ok o1 rv e
    have hl := (assignAll_len e).trans rv.len.symm
    have z : 100 ≤ sizeLine := by decide
    refine ⟨by omega, fun p hp => ⟨p, vs, rfl, .of upd_same, hl.symm, gNames_set hl ?_⟩⟩
    exact h1 _ g2 _ (t2.trans (Step.grow o2 hp)) (o2.grow hp)
  · exact h1.elim
theorem mgs_nil : PGs X [] (gNames []) := pgs_nil
theorem mgs_cons {i : Nat} {x : Str} {pos : Pos} (h2 : PGs X es (gNames is)) (hN : X.N.Nodup) (hi : X.N[i]? = some x := by rfl) (hx : L2.Loc X.env.scope x := by first | exact Or.inl rfl | exact Or.inr rfl)
    (hs : (assignEach (.Name x pos :: es) X.env).map (·.2) = PySem.assign (.Name x pos) X.env :: (assignEach es X.env).map (·.2) := by rfl) (hf : X.fn x = true ∨ X.env.scope.names.lookup x = some .local := by first | exact .inl rfl | exact .inr rfl) :
    PGs X (.Name x pos :: es) (gNames (i :: is)) := pgs_cons (pg_name hN hi hx hf) h2 hs
end
end MI
/-! # Subscripts, slices -/
namespace HT
open PySem PyProof.Rows
section
variable {prog : Program} {w : World} {A : Around} {E : Value → Shared → Prop} {s : Shared}
theorem rev_bounds (n : Nat) : Builtin.Slice.sliceAdjust none none (-1) (n : Int) = ((n : Int) - 1, -1) := by
  unfold Builtin.Slice.sliceAdjust
  simp
theorem rev_places (n : Nat) : Builtin.Slice.slicePlaces ((n : Int) - 1) (-1) (-1) = n := by
  unfold Builtin.Slice.slicePlaces
  simp
  omega
theorem sliceApplied_rev {sl : Addr} {vk : Value} {n : Nat} {Q : Int × Int × Nat → Shared → Prop} (hs : s.heap.IsSliceOf sl .none .none vk) (pk : IsPart vk (some (-1)))
    (h : Q ((n : Int) - 1, -1, n) s) : wpAny (model prog w) A (Builtin.Slice.sliceApplied (.ref sl) (pure (n : Int))) Q E s := by
  obtain ⟨os, hos, hcs, hds⟩ := id hs
  unfold Builtin.Slice.sliceApplied Builtin.Slice.sliceFields
  refine wpAny_bind (wpAny_bind (wpAny_field hos hds (x := .none) rfl (wpAny_bind (wpAny_field hos hds (x := .none) rfl (wpAny_bind (wpAny_field hos hds (x := vk) rfl (wpAny_pure ?_)))))))
  refine wpAny_bind (slicePart_ pk ?_)
  show wpAny _ _ (if ((-1 : Int) == 0) = true then _ else _) _ _ s
  rw [if_neg (by decide)]
  refine wpAny_bind (slicePart_none (wpAny_bind (slicePart_none (wpAny_bind (wpAny_pure ?_)))))
  show wpAny _ _ (match Builtin.Slice.sliceAdjust none none (-1) (n : Int) with | (lo, hi) => pure (lo, (-1 : Int), Builtin.Slice.slicePlaces lo hi (-1))) _ _ s
  rw [rev_bounds]
  show wpAny _ _ (pure ((n : Int) - 1, (-1 : Int), Builtin.Slice.slicePlaces ((n : Int) - 1) (-1) (-1))) _ _ s
  rw [rev_places]
  exact wpAny_pure h
theorem filterMap_cg {α β : Type} {f g : α → Option β} : ∀ {l : List α}, (∀ x ∈ l, f x = g x) → l.filterMap f = l.filterMap g
  | [], _ => rfl
  | x :: l, h => by
    rw [List.filterMap_cons, List.filterMap_cons, h x List.mem_cons_self, filterMap_cg fun y hy => h y (List.mem_cons_of_mem _ hy)]
theorem pick_rev (xs : Array Value) : ((List.range xs.size).filterMap fun (m : Nat) => xs[((xs.size : Int) - 1 + (m : Int) * (-1)).toNat]?).toArray = xs.toList.reverse.toArray := by
  congr 1
  have e : ∀ m ∈ List.range xs.size, xs[((xs.size : Int) - 1 + (m : Int) * (-1)).toNat]? = xs[xs.size - 1 - m]? := by
    intro m hm
    have := List.mem_range.mp hm
    have e : ((xs.size : Int) - 1 + (m : Int) * (-1)).toNat = xs.size - 1 - m := by omega
    rw [e]
  rw [filterMap_cg e]
  have h2 : (List.range xs.size).filterMap (fun m => xs[xs.size - 1 - m]?) = ((List.range xs.size).map fun k => xs.size - 1 - k).filterMap (xs[·]?) := by
    rw [List.filterMap_map]; rfl
  rw [h2, PySem.W.krv_range, List.filterMap_reverse, PySem.W.krv_all]
theorem getItem_tuple_rev {t sl : Addr} {items : Array Value} {vk : Value} {Q : Value → Shared → Prop} (ht : IsTup s.heap t items) (hs : s.heap.IsSliceOf sl .none .none vk) (pk : IsPart vk (some (-1)))
    (h : Q (.ref s.heap.objs.size) { s with heap := s.heap.push { cls := .type "tuple", data := .seq items.toList.reverse.toArray } })
    (hsz : items.size ≤ sizeLine) : wpAny (model prog w) A (getItem (.ref t) (.ref sl)) Q E s := by
  have htake : sizeOk (.seq items.toList.reverse.toArray) := by
    show items.toList.reverse.toArray.size ≤ sizeLine
    rw [List.size_toArray, List.length_reverse, Array.length_toList]
    exact hsz
  obtain ⟨os, hos, hcs, hds⟩ := id hs
  have hTs : s.TypeIs (.ref sl) "slice" := ⟨os, hos, hcs⟩
  unfold getItem
  try with_reducible refine wpAny_holding ?_
  first | refine wpAny_bind (wpAny_pure ?_) | skip
  refine wpAny_bind (wpAny_sequenceKey ht.typeIs (by decide) ?_)
  refine wpAny_bind (wpAny_callSpecial?_slot (name := Str.ofString "__getitem__") ht.typeIs PyProof.Rows.slot_tuple_getitem
    (wpAny_call_entry PyProof.Rows.slot_tuple_getitem ht.typeIs entry_tuple_getitem ?_ (args_tuple_getitem _ _)))
  show wpAny _ _ (Builtin.Tuple.tupleItemsOf (.ref t) >>= _) _ _ s
  refine wpAny_bind (tupleItemsOf_ ht ?_)
  refine wpAny_bind (wpAny_typeOf hTs ?_)
  rw [if_pos (by decide)]
  refine wpAny_bind (sliceApplied_rev hs pk ?_)
  have hno : ¬ ((((items.size : Int) - 1) == 0 && (-1 : Int) == 1 && items.size == items.size) = true) := by
    intro q
    rw [Bool.and_eq_true, Bool.and_eq_true] at q
    exact absurd q.1.2 (by decide)
  show wpAny _ _ (if (((items.size : Int) - 1) == 0 && (-1 : Int) == 1 && items.size == items.size) = true then _ else _) _ _ s
  rw [if_neg hno, pick_rev]
  first
    | exact wpAny_bind (m := Builtin.Tuple.tupleExact _) (wpAny_newObj_type (wpAny_pure ⟨_, rfl, wpAny_pure h⟩) htake)
    | exact wpAny_bind (m := Builtin.Tuple.tupleExact _) (wpAny_newObj_type (wpAny_bind (wpAny_pure (wpAny_pure ⟨_, rfl, wpAny_pure h⟩))) htake)
    | exact wpAny_bind (wpAny_bind (m := Builtin.Tuple.tupleExact _) (wpAny_newObj_type (wpAny_pure (wpAny_pure ⟨_, rfl, wpAny_pure h⟩)) htake))
    | exact wpAny_bind (wpAny_bind (m := Builtin.Tuple.tupleExact _) (wpAny_newObj_type (wpAny_pure ⟨_, rfl, wpAny_pure h⟩) htake))
end
end HT
namespace L2
open PySem PySem.Spec PyProof.Rows
section
variable {X : Cx} {e k : Expr} {te tk : TE} {pos p2 : Pos}
/-- xs[::k], k minus one: a list or a tuple backward -/
def tRev (K : PySem.W.Frag) (te tk : TE) : TE := fun σ H Q => te σ H fun x H1 => tk σ H1 fun y H2 => y = .int (-1) ∧
  ((∃ a xs, x = .ref a ∧ SqL K H2 a xs ∧ ∀ p, H2 p = none → Q (.ref p) (upd H2 p (.lst xs.reverse))) ∨
   (∃ a xs, x = .ref a ∧ SqT K H2 a xs ∧ ∀ p, H2 p = none → Q (.ref p) (upd H2 p (.tup xs.reverse))))
theorem pe_rev (he : PE X e te) (hk : PE X k tk) : PE X (.Subscript e (.Slice none none (some k) p2) pos) (tRev X.K te tk) := by
  refine ⟨fun pins s σ H Q I h => ?_⟩
  refine Subscript_ (thn (he.run pins s σ H _ I h) fun v s1 ⟨x, H1, I1, r1, q1⟩ => ?_)
  refine wpAny_Slice ?_
  rw [evalPart_none, evalPart_some]
  refine wpAny_pure (wpAny_pure ?_)
  refine thn (hk.run pins s1 σ H1 _ I1 q1) fun vk s2 ⟨y, H2, I2, rk, hy, hq⟩ => ?_
  subst hy
  obtain ⟨tk, rfl⟩ := rk
  have I4 : Inv X pins σ H2 { s2 with heap := s2.heap.push { cls := .type "slice", data := .fields #[.none, .none, .int (-1) tk] } } := I2.kept (t' := s2.toks) fun b ob q => Heap.get?_push_of_some _ q
  show wpAny (model X.prog X.w) X.A (subscriptTail e (.Slice none none (some k) p2) v (.ref s2.heap.objs.size)) (EP X pins σ Q) X.xe { s2 with heap := s2.heap.push { cls := .type "slice", data := .fields #[.none, .none, .int (-1) tk] } }
  have hs := Heap.IsSliceOf.new s2.heap .none .none (.int (-1) tk)
  rcases hq with ⟨a, xs, rfl, hx, q⟩ | ⟨a, xs, rfl, hx, q⟩
  · cases r1
    obtain ⟨its, r, ht, hz⟩ := I4.list hx
    have hlen := r.length
    refine tail_any (ops := [.ref a, .ref s2.heap.objs.size]) ht.isList.typeIs slot_list_getitem.lookup ?_ (by with_unfolding_all rfl)
    refine wpAny_getItem_list_slice ht.isList hs .none .none (.int _ _) (by simp) ?_ (by rw [List.size_toArray] <;> omega)
    rw [PySem.W.krv_pick]
    refine ⟨.ref _, _, I4.laid (t' := s2.toks) (o := .lst xs.reverse) (fun b ob q => Heap.get?_push_of_some _ q) (Nat.le_refl _) ?_, rfl, q _ (I4.hok.fresh (Nat.le_refl _))⟩
    exact ⟨by rw [List.length_reverse]; exact hz, _, 0, r.reverse, Heap.get?_push_size _ rfl⟩
  · cases r1
    obtain ⟨its, r, ht, hz⟩ := I4.tuple hx
    have hlen := r.length
    refine tail_any (ops := [.ref a, .ref s2.heap.objs.size]) ht.typeIs PyProof.Rows.slot_tuple_getitem.lookup ?_ (by with_unfolding_all rfl)
    refine HT.getItem_tuple_rev ht hs (.int _ _) ?_ (by rw [List.size_toArray]; omega)
    refine ⟨.ref _, _, I4.laid (t' := s2.toks) (o := .tup xs.reverse) (fun b ob q => Heap.get?_push_of_some _ q) (Nat.le_refl _) ?_, rfl, q _ (I4.hok.fresh (Nat.le_refl _))⟩
    refine ⟨by rw [List.length_reverse]; exact hz, its.reverse, r.reverse, ?_⟩
    exact IsTup.new _ _
end
end L2

namespace MI
open PySem L2
/-! ### a[i] -/
def opIx : S → RV → RV → Res RV := fun s a b => match asInt b with
  | none => .stuck
  | some i => match asTup a with
    | some xs => (match atI xs i with
      | some d => .ok (.d d) s
      | none => .stuck)
    | none => match asLst s a with
      | some xs => (match atI xs i with
        | some d => .ok (.d d) s
        | none => .stuck)
      | none => match asStr a with
        | some z => if z.length ≤ sizeLine then (match atI z.cps.toList i with
          | some c => .ok (.d (.str ⟨#[c]⟩)) s
          | none => .stuck) else .stuck
        | none => .stuck
theorem atI_rep {K : PySem.W.Frag} {g : G} {vs : List V} {ds : List D} {i : Int} {d : D} (r : RepL K g vs ds) (e : atI ds i = some d) : ∃ v, atI vs i = some v ∧ Rep K g v d := by
  unfold atI at e ⊢
  rw [r.length]
  cases h : ixN ds.length i with
  | none => rw [h] at e; cases e
  | some j =>
    rw [h] at e
    exact r.get e
section
variable {X : Cx} {W : WX} {a b e : Expr} {ma mb me : M} {pos p2 : Pos}
theorem os_ix : OpS X W (rIx X.K) opIx := by
  intro σ g s H Q x y ra rb ok rx ry nn q
  unfold opIx at q
  split at q
  · exact q.elim
  · rename_i i e1
    have ey := asInt_ok ry e1
    split at q
    · rename_i xs e2
      split at q
      · rename_i d e3
        obtain ⟨p, vs, rfl, h, r⟩ := asTup_ok ok rx e2
        obtain ⟨v, hv, rv⟩ := atI_rep r e3
        exact .inr (.inl ⟨p, vs, i, v, rfl, ey, h, hv, kE_d q ok (Rep.mono (GLe.refl _) rv)⟩)
      · exact q.elim
    · split at q
      · rename_i xs e2
        split at q
        · rename_i d e3
          obtain ⟨p, vs, rfl, h, r⟩ := asLst_ok ok rx e2
          obtain ⟨v, hv, rv⟩ := atI_rep r e3
          exact .inl ⟨p, vs, i, v, rfl, ey, .of h, hv, kE_d q ok rv⟩
        · exact q.elim
      · split at q
        · rename_i z e2
          split at q
          · rename_i hz
            split at q
            · rename_i c e3
              exact .inr (.inr ⟨z, i, c, asStr_ok rx e2, ey, hz, e3, kE_d q ok (.str _)⟩)
            · exact q.elim
          · exact q.elim
        · exact q.elim
theorem me_ix (ha : ME X W a ma) (hb : ME X W b mb) (hs : PlainIx b := by exact fun _ _ => rfl) : ME X W (.Subscript a b pos) (mBin opIx ma mb) :=
  pe_imp (pe_ix ix_seq ha hb hs) fun _ _ _ ⟨_, _, ok, h⟩ => tOp_of os_ix ok h
/-! ### a[i:j] -/
def MO (X : Cx) (W : WX) (e : Option Expr) (m : S → Res (Option Int)) : Prop :=
  PO X e (fun σ H Q => ∃ g s, Ok X.K g s σ H ∧ PostE X.K W σ g s H (fun r _ _ H => Q r H) (m s))
def mNoPart : S → Res (Option Int) := fun s => .ok none s
def mPart (m : M) : S → Res (Option Int) := fun s => (m s).bind fun r s1 => match asInt r with
  | some i => .ok (some i) s1
  | none => .stuck
theorem po_imp {e : Option Expr} {t t' : TO} (h : PO X e t) (i : ∀ σ H Q, t' σ H Q → t σ H Q) : PO X e t' :=
  ⟨fun pins s σ H Q I q => h.run pins s σ H Q I (i σ H Q q)⟩
theorem mo_none : MO X W none mNoPart := po_imp po_none fun σ H Q ⟨g, s, ok, h⟩ => PostE.done (W := W) h ok
theorem mo_some (h : ME X W e me) : MO X W (some e) (mPart me) := by
  refine po_imp (po_some h) fun σ H Q ⟨g, s, ok, h⟩ => ⟨g, s, ok, (PostE.bind h).mono fun r g1 s1 H1 t1 k1 o1 h1 v rv => ?_⟩
  split at h1
  · rename_i i e
    exact ⟨i, asInt_ok rv e, PostE.done (W := W) h1 o1⟩
  · exact h1.elim
def cut {α : Type} (xs : List α) (lo hi : Option Int) : List α := (xs.drop (HT.sIx xs.length 0 lo)).take (HT.sIx xs.length xs.length hi - HT.sIx xs.length 0 lo)
theorem cut_rep {K : PySem.W.Frag} {g : G} {vs : List V} {ds : List D} (r : RepL K g vs ds) (lo hi : Option Int) : RepL K g (cutV vs lo hi) (cut ds lo hi) := by
  unfold cutV cut
  rw [r.length]
  exact (r.drop _).take _
def asScr : RV → Option (List D)
  | .d (.scr xs) => some xs
  | _ => none
theorem asScr_ok {K : PySem.W.Frag} {σ : St} {g : G} {s : S} {H : Hp} {v : V} {r : RV} {xs : List D} (ok : Ok K g s σ H) (h : RepRV K g s H v r) (e : asScr r = some xs) : ∃ a vs, v = .ref a ∧ SqL K H a vs ∧ RepL K g vs xs := by
  cases r with
  | d x =>
    cases x with
    | scr ys =>
      cases e
      cases (show Rep K g v _ from h) with
      | scr h1 r => exact ⟨_, _, rfl, sqL_mono ok.sub h1, r⟩
    | _ => cases e
  | «at» i => cases e
  | new o => cases e
def opSl (lo hi : Option Int) : S → RV → Res RV := fun s a => match asTup a with
  | some xs => .ok (.d (.tup (cut xs lo hi))) s
  | none => match asLst s a with
    | some xs => .ok (.new (.lst (cut xs lo hi))) s
    | none => match asScr a with
     | some xs => .ok (.new (.lst (cut xs lo hi))) s
     | none => match asStr a with
      | some z => if z.length ≤ sizeLine then .ok (.d (.str (cutS z lo hi))) s else .stuck
      | none => .stuck
def mSlice (a : M) (lo hi : S → Res (Option Int)) : M := fun s => (mSettle a s).bind fun x s1 => (lo s1).bind fun l s2 => (hi s2).bind fun u s3 => opSl l u s3 x
def rSlM (K : PySem.W.Frag) : V → Option Int → Option Int → Hp → VK → Prop := fun x lo hi H Q => rSlA K x lo hi H Q ∨ rSlL K x lo hi H Q ∨ rSlS x lo hi H Q
theorem sl_M : SlR X (rSlM X.K) := sl_tupA.or (sl_list.or sl_str)
theorem cut_whole {α : Type} {xs : List α} {lo hi : Option Int} (h : HT.sIx xs.length 0 lo = 0 ∧ HT.sIx xs.length xs.length hi = xs.length) : cut xs lo hi = xs := by
  unfold cut
  rw [h.1, h.2]
  simp
theorem me_slice {lo hi : Option Expr} {ml mh : S → Res (Option Int)} (ha : ME X W a ma) (hl : MO X W lo ml) (hh : MO X W hi mh) : ME X W (.Subscript a (.Slice lo hi none p2) pos) (mSlice ma ml mh) := by
  refine pe_imp (pe_slice sl_M ha hl hh) fun σ H Q ⟨g, s, ok, h⟩ => ?_
  refine tM_settle ok (PostE.bind h) fun x g1 s1 H1 v t1 k1 o1 rv nn h1 => ?_
  refine ⟨g1, s1, o1, (PostE.bind h1).mono fun l g2 s2 H2 t2 k2 o2 h2 => ?_⟩
  refine ⟨g2, s2, o2, (PostE.bind h2).mono fun u g3 s3 H3 t3 k3 o3 h3 => ?_⟩
  have rv2 : RepRV X.K g2 s2 H2 v x := rv.held nn t2 k2
  have rv3 : RepRV X.K g3 s3 H3 v x := rv2.held nn t3 k3
  unfold opSl at h3
  split at h3
  · rename_i xs e
    obtain ⟨p, vs, rfl, hq, r⟩ := asTup_ok o3 rv3 e
    refine .inl ⟨p, vs, rfl, hq, fun z => ?_, fun z p hp => kE_tup h3 o3 hp (cut_rep r l u)⟩
    rw [r.length] at z
    rw [cut_whole z] at h3
    cases x with
    | d w =>
      cases w <;> first | cases e
      exact kE_d h3 o3 rv3
    | «at» _ => cases e
    | new _ => cases e
  · split at h3
    · rename_i xs e
      obtain ⟨p, vs, rfl, hq, r⟩ := asLst_ok o3 rv3 e
      exact .inr (.inl ⟨p, vs, rfl, .of hq, fun p hp => kE_new h3 o3 hp ⟨_, upd_same, cut_rep r l u⟩⟩)
    · split at h3
      · rename_i xs e
        obtain ⟨p, vs, rfl, hq, r⟩ := asScr_ok o3 rv3 e
        exact .inr (.inl ⟨p, vs, rfl, hq, fun p hp => kE_new h3 o3 hp ⟨_, upd_same, cut_rep r l u⟩⟩)
      · split at h3
        · rename_i z e
          split at h3
          · rename_i hz
            exact .inr (.inr ⟨z, asStr_ok rv3 e, hz, kE_d h3 o3 (.str _)⟩)
          · exact h3.elim
        · exact h3.elim
/-- a[::-1] -/
def opRev : S → RV → RV → Res RV := fun s a b => match asInt b with
  | some i => if i = -1 then (match asTup a with
    | some xs => .ok (.d (.tup xs.reverse)) s
    | none => match asLst s a with
      | some xs => .ok (.new (.lst xs.reverse)) s
      | none => .stuck) else .stuck
  | none => .stuck
theorem me_rev (ha : ME X W a ma) (hb : ME X W b mb) : ME X W (.Subscript a (.Slice none none (some b) p2) pos) (mBin opRev ma mb) := by
  refine pe_imp (pe_rev ha hb) fun σ H Q ⟨g, s, ok, h⟩ => ?_
  refine tM_settle ok (PostE.bind h) fun x g1 s1 H1 v t1 k1 o1 rv nn h1 => ?_
  refine ⟨g1, s1, o1, (PostE.bind h1).mono fun y g2 s2 H2 t2 k2 o2 h2 u ru => ?_⟩
  have rv2 : RepRV X.K g2 s2 H2 v x := rv.held nn t2 k2
  unfold opRev at h2
  split at h2
  · rename_i i e1
    by_cases hi : i = -1
    case neg => rw [if_neg hi] at h2; exact h2.elim
    rw [if_pos hi] at h2
    subst hi
    refine ⟨asInt_ok ru e1, ?_⟩
    split at h2
    · rename_i xs e
      obtain ⟨p, vs, rfl, hq, r⟩ := asTup_ok o2 rv2 e
      exact .inr ⟨p, vs, rfl, hq, fun p hp => kE_tup h2 o2 hp r.reverse⟩
    · split at h2
      · rename_i xs e
        obtain ⟨p, vs, rfl, hq, r⟩ := asLst_ok o2 rv2 e
        exact .inl ⟨p, vs, rfl, .of hq, fun p hp => kE_new h2 o2 hp ⟨_, upd_same, r.reverse⟩⟩
      · exact h2.elim
  · exact h2.elim
end
end MI
/-! # Built-in functions, methods of lists -/
namespace MI
open PySem L2

section
variable {K : PySem.W.Frag} {W : WX} {σ : St} {g : G} {s : S} {H : Hp}
/-- a built-in function of one value that makes nothing -/
def mFn1 (f : S → RV → Res RV) (m : M) : M := fun s => (m s).bind fun r s1 => f s1 r
end
section
variable {X : Cx} {W : WX} {e a b c : Expr} {me ma mb mc : M} {pos p : Pos} {x : Str}
/-- one argument that is not given away -/
theorem ma_one {r : List V → Hp → VK → Prop} {f : S → RV → Res RV}
    (hf : ∀ (σ : St) (g : G) (s : S) (H : Hp) (Q : VK) (v : V) (rv : RV), Ok X.K g s σ H → RepRV X.K g s H v rv → PostE X.K W σ g s H (kE X.K Q) (f s rv) → r [v] H Q)
    {σ : St} {H : Hp} {Q : VK} {g : G} {s : S} (ok : Ok X.K g s σ H) (h : PostE X.K W σ g s H (kE X.K Q) (mFn1 f me s)) : tCB r (tCons (tM X.K W me) tNil) σ H Q :=
  ⟨g, s, ok, (PostE.bind h).mono fun rv g1 s1 H1 t1 k1 o1 h1 v rr => hf σ g1 s1 H1 Q v rv o1 rr h1⟩
/-! ### len -/
def lenD : D → Option Nat
  | .str y => if y.length ≤ sizeLine then some y.length else none
  | .tup xs => some xs.length
  | .lst xs => some xs.length
  | .dic xs => some xs.length
  | .scr xs => some xs.length
  | _ => none
def fLen : S → RV → Res RV := fun s r => match (asD s r).bind lenD with
  | some n => .ok (.d (.int n)) s
  | none => .stuck
theorem call_lenM (hc : True) : CallR X (.builtin "len") (fun xs H Q => (∃ x n, xs = [x] ∧ LenV X.K x H n ∧ Q (.int n) H) ∨ ∃ p kvs, xs = [.ref p] ∧ H p = some (.dK kvs) ∧ Q (.int kvs.length) H) := by
  intro pins s σ H xs us Q I r h
  rcases h with h | ⟨p, kvs, rfl, hp, q⟩
  · exact call_len pins s σ H xs us Q I r h
  · exact call_lenD pins s σ H _ us Q I r ⟨p, kvs, rfl, hp, q⟩
theorem RepK.length {K : PySem.W.Frag} {g : G} : ∀ {v : List (Key × V)} {d : List (Key × D)}, RepK K g v d → v.length = d.length
  | _, _, .nil => rfl
  | _, _, .cons _ b => by rw [List.length_cons, List.length_cons, RepK.length b]
theorem me_len (ha : ME X W a ma) (hg : Gl X "len") (hm : X.mg "len" = none) (hs : starEach [a] X.env = (false, eval a X.env) :: starEach [] X.env := by rfl) : ME X W (.Call (.Name "len" p) [a] [] pos) (mFn1 fLen ma) := by
  refine pe_imp (pe_callB (call_lenM trivial) hg hm PySem.boot_len (pa_cons ha pa_nil hs) (he := hs)) fun σ H Q ⟨g, s, ok, h⟩ => ma_one (fun σ g s H Q v rv ok rr h => ?_) ok h
  unfold fLen at h
  cases e : (asD s rv).bind lenD with
  | none => simp only [e] at h; exact h.elim
  | some n =>
    simp only [e] at h
    cases e1 : asD s rv with
    | none => rw [e1] at e; cases e
    | some d =>
      rw [e1] at e
      have e2 : lenD d = some n := e
      obtain ⟨g1, l, sb, rp⟩ := asD_ok ok (GLe.refl g) ok.sub rr e1
      have fin := kE_d h ok (.int n)
      cases rp with
      | str x =>
        simp only [lenD] at e2
        split at e2
        · rename_i hl
          cases e2
          exact .inl ⟨_, _, rfl, ⟨hl, rfl⟩, fin⟩
        · cases e2
      | tup h1 r1 => cases e2; exact .inl ⟨_, _, rfl, .inr ⟨_, sqT_mono sb h1, rfl⟩, by rw [r1.length]; exact fin⟩
      | lst h1 r1 => cases e2; exact .inl ⟨_, _, rfl, .inl ⟨_, .of (sb _ _ h1), rfl⟩, by rw [r1.length]; exact fin⟩
      | scr h1 r1 => cases e2; exact .inl ⟨_, _, rfl, .inl ⟨_, sqL_mono sb h1, rfl⟩, by rw [r1.length]; exact fin⟩
      | dic h1 r1 => cases e2; exact .inr ⟨_, _, rfl, sb _ _ h1, by rw [r1.length]; exact fin⟩
      | _ => cases e2
/-! ### int, abs, list, tuple, min, max -/
def fInt : S → RV → Res RV := fun s r => match r with
  | .d (.int i) => .ok (.d (.int i)) s
  | .d (.bl k) => .ok (.d (.int (if k then 1 else 0))) s
  | _ => .stuck
theorem me_toInt (ha : ME X W a ma) (hg : Gl X "int") (hm : X.mg "int" = none) (hs : starEach [a] X.env = (false, eval a X.env) :: starEach [] X.env := by rfl) : ME X W (.Call (.Name "int" p) [a] [] pos) (mFn1 fInt ma) := by
  refine pe_imp (pe_callTy call_int1 hg hm (by decide +kernel) (pa_cons ha pa_nil hs) (he := hs)) fun σ H Q ⟨g, s, ok, h⟩ => ma_one (fun σ g s H Q v rv ok rr h => ?_) ok h
  unfold fInt at h
  split at h
  · cases (show Rep _ _ _ _ from rr); exact .inl ⟨_, rfl, kE_d h ok (.int _)⟩
  · cases (show Rep _ _ _ _ from rr); exact .inr ⟨_, rfl, kE_d h ok (.int _)⟩
  · exact h.elim
def fAbs : S → RV → Res RV := fun s r => match asInt r with
  | some i => .ok (.d (.int (if i < 0 then -i else i))) s
  | none => .stuck
theorem me_abs (ha : ME X W a ma) (hg : Gl X "abs") (hm : X.mg "abs" = none) (hs : starEach [a] X.env = (false, eval a X.env) :: starEach [] X.env := by rfl) : ME X W (.Call (.Name "abs" p) [a] [] pos) (mFn1 fAbs ma) := by
  refine pe_imp (pe_callB call_abs hg hm (by decide +kernel) (pa_cons ha pa_nil hs) (he := hs)) fun σ H Q ⟨g, s, ok, h⟩ => ma_one (fun σ g s H Q v rv ok rr h => ?_) ok h
  unfold fAbs at h
  split at h
  · rename_i i e; rw [asInt_ok rr e]; exact ⟨_, rfl, kE_d h ok (.int _)⟩
  · exact h.elim
def fList : S → RV → Res RV := fun s r => match asItems s r with
  | some xs => .ok (.new (.lst xs)) s
  | none => .stuck
theorem asItems_ok {K : PySem.W.Frag} {σ : St} {g : G} {s : S} {H : Hp} {v : V} {r : RV} {xs : List D} (ok : Ok K g s σ H) (h : RepRV K g s H v r) (e : asItems s r = some xs) :
    ∃ a vs, v = .ref a ∧ (SqL K H a vs ∨ SqT K H a vs) ∧ RepL K g vs xs := by
  unfold asItems at e
  split at e
  · rename_i zs e3
    cases e
    obtain ⟨a, vs, rfl, h, r2⟩ := asTup_ok ok h e3
    exact ⟨a, vs, rfl, .inr h, r2⟩
  · obtain ⟨a, vs, rfl, h, r2⟩ := asLst_ok ok h e
    exact ⟨a, vs, rfl, .inl (.of h), r2⟩
theorem me_list (ha : ME X W a ma) (hg : Gl X "list") (hm : X.mg "list" = none) (hs : starEach [a] X.env = (false, eval a X.env) :: starEach [] X.env := by rfl) : ME X W (.Call (.Name "list" p) [a] [] pos) (mFn1 fList ma) := by
  refine pe_imp (pe_callTy call_list_of hg hm (by decide +kernel) (pa_cons ha pa_nil hs) (he := hs)) fun σ H Q ⟨g, s, ok, h⟩ => ma_one (fun σ g s H Q v rv ok rr h => ?_) ok h
  unfold fList at h
  split at h
  · rename_i xs e
    obtain ⟨p, vs, rfl, hq, r⟩ := asItems_ok ok rr e
    exact ⟨p, vs, rfl, hq, fun l hl => kE_new h ok hl ⟨_, upd_same, r⟩⟩
  · exact h.elim
def fTuple : S → RV → Res RV := fun s r => match asItems s r with
  | some xs => .ok (.d (.tup xs)) s
  | none => .stuck
theorem me_tuple (ha : ME X W a ma) (hg : Gl X "tuple") (hm : X.mg "tuple" = none) (hs : starEach [a] X.env = (false, eval a X.env) :: starEach [] X.env := by rfl) : ME X W (.Call (.Name "tuple" p) [a] [] pos) (mFn1 fTuple ma) := by
  refine pe_imp (pe_callTy call_tuple_of hg hm (by decide +kernel) (pa_cons ha pa_nil hs) (he := hs)) fun σ H Q ⟨g, s, ok, h⟩ => ma_one (fun σ g s H Q v rv ok rr h => ?_) ok h
  unfold fTuple at h
  split at h
  · rename_i xs e
    unfold asItems at e
    split at e
    · rename_i zs e3
      cases e
      obtain ⟨a, vs, rfl, hq, r⟩ := asTup_ok ok rr e3
      refine ⟨a, vs, rfl, .inr ⟨hq, ?_⟩⟩
      cases rv with
      | d w =>
        cases w <;> first | cases e3
        exact kE_d h ok rr
      | «at» _ => cases e3
      | new _ => cases e3
    · obtain ⟨a, vs, rfl, hq, r⟩ := asLst_ok ok rr e
      exact ⟨a, vs, rfl, .inl ⟨.of hq, fun l hl => kE_tup h ok hl r⟩⟩
  · exact h.elim
/-- min, max of two or three ints -/
def intsOf : List D → Option (List Int)
  | [] => some []
  | .int i :: r => (intsOf r).map (i :: ·)
  | _ :: _ => none
def minI : Int → Int → Int := fun i j => if j < i then j else i
def maxI : Int → Int → Int := fun i j => if j > i then j else i
def mFn2 (f : Int → Int → Int) (m : S → Res (List D)) : M := fun s => (m s).bind fun ds s1 => match ds with
  | [.int i, .int j] => .ok (.d (.int (f i j))) s1
  | _ => .stuck
def mFn3 (f : Int → Int → Int) (m : S → Res (List D)) : M := fun s => (m s).bind fun ds s1 => match ds with
  | [.int i, .int j, .int k] => .ok (.d (.int (f (f i j) k))) s1
  | _ => .stuck
theorem nuMin2_int (i j : Int) : nuMin2 (.int i) (.int j) = some (.int (minI i j)) := by
  show some (if decide (j < i) = true then V.int j else V.int i) = some (.int (if j < i then j else i))
  by_cases h : j < i <;> simp [h]
theorem nuMax2_int (i j : Int) : nuMax2 (.int i) (.int j) = some (.int (maxI i j)) := by
  show some (if decide (i < j) = true then V.int j else V.int i) = some (.int (if j > i then j else i))
  by_cases h : i < j <;> simp [h]
theorem mFn2_of {f : Int → Int → Int} {f' : V → V → Option V} {es : List Expr} {m : S → Res (List D)} (hf : ∀ i j, f' (.int i) (.int j) = some (.int (f i j))) {σ : St} {H : Hp} {Q : VK} {g : G} {s : S} (ok : Ok X.K g s σ H)
    (h : PostE X.K W σ g s H (kE X.K Q) (mFn2 f m s)) : tCB (rNuC2 f') (tMA X.K W m) σ H Q := by
  refine ⟨g, s, ok, (PostE.bind h).mono fun ds g1 s1 H1 t1 k1 o1 h1 vs rs => ?_⟩
  split at h1
  · cases rs with
    | cons r1 rs =>
      cases rs with
      | cons r2 rs =>
        cases rs
        cases r1; cases r2
        exact ⟨_, _, _, rfl, hf _ _, kE_d h1 o1 (.int _)⟩
  · exact h1.elim
theorem mFn3_of {f : Int → Int → Int} {f' : V → V → V → Option V} {es : List Expr} {m : S → Res (List D)} (hf : ∀ i j k, f' (.int i) (.int j) (.int k) = some (.int (f (f i j) k))) {σ : St} {H : Hp} {Q : VK} {g : G} {s : S} (ok : Ok X.K g s σ H)
    (h : PostE X.K W σ g s H (kE X.K Q) (mFn3 f m s)) : tCB (rNuC3 f') (tMA X.K W m) σ H Q := by
  refine ⟨g, s, ok, (PostE.bind h).mono fun ds g1 s1 H1 t1 k1 o1 h1 vs rs => ?_⟩
  split at h1
  · cases rs with
    | cons r1 rs =>
      cases rs with
      | cons r2 rs =>
        cases rs with
        | cons r3 rs =>
          cases rs
          cases r1; cases r2; cases r3
          exact ⟨_, _, _, _, rfl, hf _ _ _, kE_d h1 o1 (.int _)⟩
  · exact h1.elim
theorem nuMin3_int (i j k : Int) : nuMin3 (.int i) (.int j) (.int k) = some (.int (minI (minI i j) k)) := by
  unfold nuMin3; rw [nuMin2_int]; exact nuMin2_int _ _
theorem nuMax3_int (i j k : Int) : nuMax3 (.int i) (.int j) (.int k) = some (.int (maxI (maxI i j) k)) := by
  unfold nuMax3; rw [nuMax2_int]; exact nuMax2_int _ _
section
variable {m : S → Res (List D)}
theorem me_min2 (hc : X.calm = true) (hA : MA X W [a, b] m) (hg : Gl X "min") (hm : X.mg "min" = none) (hs : starEach [a, b] X.env = (false, eval a X.env) :: starEach [b] X.env := by rfl) (hpl : (backTo pos (starEach [b] X.env)).any (·.1) = false := by rfl) : ME X W (.Call (.Name "min" p) [a, b] [] pos) (mFn2 minI m) :=
  pe_imp (pe_callB (call_min2Nu hc) hg hm (by decide +kernel) hA (he := hs) (hpl := hpl)) fun σ H Q ⟨g, s, ok, h⟩ => mFn2_of (es := [a, b]) nuMin2_int ok h
theorem me_max2 (hc : X.calm = true) (hA : MA X W [a, b] m) (hg : Gl X "max") (hm : X.mg "max" = none) (hs : starEach [a, b] X.env = (false, eval a X.env) :: starEach [b] X.env := by rfl) (hpl : (backTo pos (starEach [b] X.env)).any (·.1) = false := by rfl) : ME X W (.Call (.Name "max" p) [a, b] [] pos) (mFn2 maxI m) :=
  pe_imp (pe_callB (call_max2Nu hc) hg hm (by decide +kernel) hA (he := hs) (hpl := hpl)) fun σ H Q ⟨g, s, ok, h⟩ => mFn2_of (es := [a, b]) nuMax2_int ok h
theorem me_min3 (hc : X.calm = true) (hA : MA X W [a, b, c] m) (hg : Gl X "min") (hm : X.mg "min" = none) (hs : starEach [a, b, c] X.env = (false, eval a X.env) :: starEach [b, c] X.env := by rfl) (hpl : (backTo pos (starEach [b, c] X.env)).any (·.1) = false := by rfl) : ME X W (.Call (.Name "min" p) [a, b, c] [] pos) (mFn3 minI m) :=
  pe_imp (pe_callB (call_min3Nu hc) hg hm (by decide +kernel) hA (he := hs) (hpl := hpl)) fun σ H Q ⟨g, s, ok, h⟩ => mFn3_of (es := [a, b, c]) nuMin3_int ok h
theorem me_max3 (hc : X.calm = true) (hA : MA X W [a, b, c] m) (hg : Gl X "max") (hm : X.mg "max" = none) (hs : starEach [a, b, c] X.env = (false, eval a X.env) :: starEach [b, c] X.env := by rfl) (hpl : (backTo pos (starEach [b, c] X.env)).any (·.1) = false := by rfl) : ME X W (.Call (.Name "max" p) [a, b, c] [] pos) (mFn3 maxI m) :=
  pe_imp (pe_callB (call_max3Nu hc) hg hm (by decide +kernel) hA (he := hs) (hpl := hpl)) fun σ H Q ⟨g, s, ok, h⟩ => mFn3_of (es := [a, b, c]) nuMax3_int ok h
end
/-! ### -a -/
def fNeg : S → RV → Res RV := fun s r => match asInt r with
  | some i => .ok (.d (.int (-i))) s
  | none => .stuck
theorem me_neg (ha : ME X W a ma) : ME X W (.UnaryOp .USub a pos) (mFn1 fNeg ma) := by
  refine pe_imp (pe_un un_neg ha) fun σ H Q ⟨g, s, ok, h⟩ => ⟨g, s, ok, (PostE.bind h).mono fun rv g1 s1 H1 t1 k1 o1 h1 v rr => ?_⟩
  unfold fNeg at h1
  split at h1
  · rename_i i e; exact ⟨i, asInt_ok rr e, kE_d h1 o1 (.int _)⟩
  · exact h1.elim
/-! ### all, any of a list of bools -/
def blsOf : List D → Option (List Bool)
  | [] => some []
  | .bl b :: r => (blsOf r).map (b :: ·)
  | _ :: _ => none
theorem blsOf_ok {K : PySem.W.Frag} {g : G} : ∀ {vs : List V} {ds : List D} {bs : List Bool}, RepL K g vs ds → blsOf ds = some bs → vs = bs.map V.bl
  | _, _, _, .nil, e => by cases e; rfl
  | _, _, bs, .cons (d := d) a b, e => by
    cases d with
    | bl k =>
      cases a
      simp only [blsOf] at e
      obtain ⟨cs, e1, rfl⟩ := Option.map_eq_some_iff.mp e
      rw [blsOf_ok b e1]; rfl
    | _ => cases e
def fAll : S → RV → Res RV := fun s r => match (asLst s r).bind blsOf with
  | some bs => .ok (.d (.bl (bs.all id))) s
  | none => .stuck
def fAny : S → RV → Res RV := fun s r => match (asLst s r).bind blsOf with
  | some bs => .ok (.d (.bl (bs.any id))) s
  | none => .stuck
theorem bls_seq {K : PySem.W.Frag} {σ : St} {g : G} {s : S} {H : Hp} {v : V} {r : RV} {bs : List Bool} (ok : Ok K g s σ H) (h : RepRV K g s H v r) (e : (asLst s r).bind blsOf = some bs) : ∃ a, v = .ref a ∧ SqL K H a (bs.map V.bl) := by
  cases e1 : asLst s r with
  | none => rw [e1] at e; cases e
  | some xs =>
    rw [e1] at e
    obtain ⟨a, vs, rfl, hq, r⟩ := asLst_ok ok h e1
    have := blsOf_ok r e
    subst this
    exact ⟨a, rfl, .of hq⟩
theorem me_all (hc : X.calm = true) (ha : ME X W a ma) (hg : Gl X "all") (hm : X.mg "all" = none) (hs : starEach [a] X.env = (false, eval a X.env) :: starEach [] X.env := by rfl) : ME X W (.Call (.Name "all" p) [a] [] pos) (mFn1 fAll ma) := by
  refine pe_imp (pe_callB (cr_all hc) hg hm (by decide +kernel) (pa_cons ha pa_nil hs) (he := hs)) fun σ H Q ⟨g, s, ok, h⟩ => ma_one (fun σ g s H Q v rv ok rr h => ?_) ok h
  unfold fAll at h
  split at h
  · rename_i bs e
    obtain ⟨p, rfl, hq⟩ := bls_seq ok rr e
    exact ⟨p, bs, rfl, hq, kE_d h ok (.bl _)⟩
  · exact h.elim
theorem me_any (hc : X.calm = true) (ha : ME X W a ma) (hg : Gl X "any") (hm : X.mg "any" = none) (hs : starEach [a] X.env = (false, eval a X.env) :: starEach [] X.env := by rfl) : ME X W (.Call (.Name "any" p) [a] [] pos) (mFn1 fAny ma) := by
  refine pe_imp (pe_callB (cr_any hc) hg hm (by decide +kernel) (pa_cons ha pa_nil hs) (he := hs)) fun σ H Q ⟨g, s, ok, h⟩ => ma_one (fun σ g s H Q v rv ok rr h => ?_) ok h
  unfold fAny at h
  split at h
  · rename_i bs e
    obtain ⟨p, rfl, hq⟩ := bls_seq ok rr e
    exact ⟨p, bs, rfl, hq, kE_d h ok (.bl _)⟩
  · exact h.elim
/-! ### isinstance with a built-in class -/
inductive Ty where
  | int | str | bool | tup | lst | dic
def Ty.name : Ty → String
  | .int => "int" | .str => "str" | .bool => "bool" | .tup => "tuple" | .lst => "list" | .dic => "dict"
def isTy : Ty → D → Bool
  | .int, .int _ => true
  | .int, .bl _ => true
  | .bool, .bl _ => true
  | .str, .str _ => true
  | .tup, .tup _ => true
  | .lst, .lst _ => true
  | .dic, .dic _ => true
  | _, _ => false
def tyD : D → Option String
  | .non => some "NoneType" | .bl _ => some "bool" | .int _ => some "int" | .str _ => some "str" | .tup _ => some "tuple" | .lst _ => some "list" | .dic _ => some "dict" | .ref _ => none | .scr _ => none
theorem isTy_kit : ∀ (T : Ty) (d : D) (t : String), tyD d = some t → kitB t T.name = some (isTy T d) := by
  intro T d t e
  cases d <;> cases e <;> cases T <;> (simp only [isTy, Ty.name]; decide +kernel)
def fIsi (T : Ty) : S → RV → Res RV := fun s r => match asD s r with
  | some d => match tyD d with
    | some _ => .ok (.d (.bl (isTy T d))) s
    | none => .stuck
  | none => .stuck
theorem tyX_of {K : PySem.W.Frag} {g : G} {H : Hp} {v : V} {d : D} {t : String} (sb : Sub g.F H) (r : Rep K g v d) (e : tyD d = some t) : TyX K H v (.type t) := by
  cases r with
  | non => cases e; exact .base .non
  | bl b => cases e; exact .base (.bl b)
  | int i => cases e; exact .base (.int i)
  | str x => cases e; exact .base (.str x)
  | tup h _ =>
    cases e
    rcases sqT_mono sb h with (h | ⟨o, h⟩) | ⟨o, _, _, hk, hc, _⟩
    · exact .base (.tup h)
    · exact .fTuple h
    · exact .kTuple hk hc
  | lst h _ => cases e; exact .base (.lst (sb _ _ h))
  | dic h _ => cases e; exact .base (.dK (sb _ _ h))
  | ref _ _ => cases e
  | scr _ _ => cases e
theorem me_isi {T : Ty} {tn : Str} {p2 : Pos} (ha : ME X W a ma) (hg : Gl X "isinstance") (hm : X.mg "isinstance" = none) (hg2 : Gl X tn) (hm2 : X.mg tn = none) (hv : bootBuiltins tn = some (.type T.name)) (hn : tn ≠ "__name__" := by decide) (hdb : (tn == ("__debug__" : Str)) = false := by decide)
    (hs : starEach [a, .Name tn p2] X.env = (false, eval a X.env) :: starEach [.Name tn p2] X.env := by rfl) (hs2 : starEach [.Name tn p2] X.env = (false, eval (.Name tn p2) X.env) :: starEach [] X.env := by rfl) (hpl : (backTo pos (starEach [.Name tn p2] X.env)).any (·.1) = false := by rfl) :
    ME X W (.Call (.Name "isinstance" p) [a, .Name tn p2] [] pos) (mFn1 (fIsi T) ma) := by
  refine pe_imp (pe_callB call_isi hg hm (by decide +kernel) (pa_cons ha (pa_cons (pe_bltn (v := .ty T.name) hg2 hm2 hv rfl hn hdb) pa_nil hs2) hs) (he := hs) (hpl := hpl)) fun σ H Q ⟨g, s, ok, h⟩ => ?_
  refine ⟨g, s, ok, (PostE.bind h).mono fun rv g1 s1 H1 t1 k1 o1 h1 v rr => ?_⟩
  unfold fIsi at h1
  split at h1
  · rename_i d e1
    split at h1
    · rename_i t e2
      obtain ⟨g2, l, sb, rp⟩ := asD_ok o1 (GLe.refl g1) o1.sub rr e1
      exact ⟨v, .ty T.name, .type t, .type T.name, isTy T d, rfl, .ty _, tyX_of sb rp e2, kit_ty (isTy_kit T d t e2), kE_d h1 o1 (.bl _)⟩
    · exact h1.elim
  · exact h1.elim
end

/-! ### the store's objects are changed -/
@[simp] def locOf : RV → Option Loc
  | .at i => some (.sl i)
  | .d (.ref n) => some (.gl n)
  | _ => none
def setCell (s : S) (l : Loc) (o : MObj) : S := match l with
  | .sl i => { s with env := s.env.set i (.own o) }
  | .gl n => { s with gl := s.gl.set n o }
section
variable {K : PySem.W.Frag} {W : WX} {σ : St} {g : G} {s : S} {H : Hp}
theorem locOf_ok {v : V} {r : RV} {l : Loc} (h : RepRV K g s H v r) (e : locOf r = some l) : v = .ref (g.adr l) := by
  cases r with
  | d x =>
    cases x <;> first | cases e
    cases (show Rep K g v _ from h); rfl
  | «at» i => cases e; exact h
  | new o => cases e
theorem cellOf_setCell {l l' : Loc} {o o' w : MObj} (h : cellOf s l = some o) (e : cellOf (setCell s l o') l' = some w) : (l' = l ∧ w = o') ∨ (l' ≠ l ∧ cellOf s l' = some w) := by
  cases l with
  | sl i =>
    have hi : i < s.env.length := by
      have h' : (match s.env[i]? with | some (.own o) => some o | _ => none) = some o := h
      split at h'
      · rename_i e; exact (List.getElem?_eq_some_iff.mp e).1
      · cases h'
    rcases cellOf_set hi e with ⟨z, z2⟩ | z
    · cases z2; exact .inl ⟨z, rfl⟩
    · exact .inr z
  | gl n =>
    have hn : n < s.gl.length := (List.getElem?_eq_some_iff.mp h).1
    cases l' with
    | sl j => exact .inr ⟨(fun z => nomatch z), e⟩
    | gl m =>
      have e' : (s.gl.set n o')[m]? = some w := e
      by_cases z : m = n
      · subst z; rw [List.getElem?_set_self hn] at e'; cases e'; exact .inl ⟨rfl, rfl⟩
      · rw [List.getElem?_set_ne (Ne.symm z)] at e'; exact .inr ⟨fun q => z (by cases q; rfl), e'⟩
/-- the object at l is changed -/
theorem Ok.change {l : Loc} {o o' : MObj} {ho : HO} (ok : Ok K g s σ H) (h : cellOf s l = some o) (r : ObjRep K g (upd H (g.adr l) ho) (g.adr l) o') :
    Ok K g (setCell s l o') σ (upd H (g.adr l) ho) ∧ Step g H g (upd H (g.adr l) ho) := by
  obtain ⟨f, q⟩ := ok.cell l o h
  have np : ¬ g.P (g.adr l) := fun p => (ok.prot _ p).2.2 ⟨l, o, h, rfl⟩
  have cs : ∀ {l' w}, cellOf (setCell s l o') l' = some w → ∃ w', cellOf s l' = some w' := fun e => by
    rcases cellOf_setCell h e with ⟨rfl, _⟩ | ⟨_, z⟩
    · exact ⟨o, h⟩
    · exact ⟨_, z⟩
  refine ⟨⟨fun b u e => ?_, fun l' w e => ?_, fun l1 l2 w1 w2 e1 e2 z => ?_, fun i x e => ?_, ?_, ?_, fun b p => ?_⟩, GLe.refl _, rfl, fun b p => upd_ne fun z => np (by rw [← z]; exact p)⟩
  · rw [upd_ne (fun z => by rw [z, f] at e; cases e)]; exact ok.sub b u e
  · rcases cellOf_setCell h e with ⟨rfl, rfl⟩ | ⟨hl, z⟩
    · exact ⟨f, r⟩
    · obtain ⟨f', r'⟩ := ok.cell l' w z
      exact ⟨f', r'.mono (GLe.refl _) (upd_ne fun q => hl (ok.inj _ _ _ _ z h q))⟩
  · obtain ⟨w1', h1⟩ := cs e1
    obtain ⟨w2', h2⟩ := cs e2
    exact ok.inj _ _ _ _ h1 h2 z
  · cases l with
    | gl n => exact ok.env i x e
    | sl j =>
      have hj : j < s.env.length := by
        have h' : (match s.env[j]? with | some (.own o) => some o | _ => none) = some o := h
        split at h'
        · rename_i e; exact (List.getElem?_eq_some_iff.mp e).1
        · cases h'
      have e' : (s.env.set j (.own o'))[i]? = some x := e
      by_cases z : i = j
      · subst z
        rw [List.getElem?_set_self hj] at e'
        cases e'
        have h' : (match s.env[i]? with | some (.own o) => some o | _ => none) = some o := h
        split at h'
        · rename_i e; have q := ok.env i _ e; exact q
        · cases h'
      · rw [List.getElem?_set_ne (Ne.symm z)] at e'
        exact ok.env i x e'
  · cases l with
    | gl n => exact ok.len
    | sl j => exact (List.length_set ..).trans ok.len
  · cases l with
    | gl n => exact ok.ng.trans (List.length_set ..).symm
    | sl j => exact ok.ng
  · obtain ⟨h1, h2, h3⟩ := ok.prot b p
    refine ⟨?_, h2, fun ⟨l', w, e, z⟩ => ?_⟩
    · rw [upd_ne (fun z => np (by rw [← z]; exact p))]; exact h1
    · obtain ⟨w', h'⟩ := cs e
      exact h3 ⟨l', w', h', z⟩
theorem setCell_keep {l : Loc} {o : MObj} {r : RV} {v : V} {ho : HO} : True := trivial
/-- the end of a method that changes its receiver -/
theorem kE_change {Q : VK} {l : Loc} {o o' : MObj} {ho : HO} {v : V} {x : D} (ok : Ok K g s σ H) (h : cellOf s l = some o) (r : ObjRep K g (upd H (g.adr l) ho) (g.adr l) o') (rx : Rep K g v x)
    (q : PostE K W σ g s H (kE K Q) (.ok (.d x) (setCell s l o'))) : Q v (upd H (g.adr l) ho) := by
  obtain ⟨o1, t1⟩ := ok.change h r
  exact q g _ t1 (SlKeep.refl _) o1 v rx
theorem cell_lst {l : Loc} {xs : List D} (ok : Ok K g s σ H) (h : cellOf s l = some (.lst xs)) : ∃ vs, H (g.adr l) = some (.lst vs) ∧ RepL K g vs xs := (ok.cell l _ h).2
end
/-- a method of a list with one argument given away -/
def mLm1 (f : List D → D → Option (D × List D)) (o a : M) : M := fun s => (o s).bind fun r s1 => match locOf r with
  | some l => (match cellOf s1 l with
    | some (.lst _) => (mLeak a s1).bind fun d s2 => (match cellOf s2 l with
      | some (.lst xs) => (match f xs d with
        | some (x, ys) => .ok (.d x) (setCell s2 l (.lst ys))
        | none => .stuck)
      | _ => .stuck)
    | _ => .stuck)
  | none => .stuck
def fAppend : List D → D → Option (D × List D) := fun xs d => if xs.length < sizeLine then some (.non, xs ++ [d]) else none
section
variable {X : Cx} {W : WX} {o a b : Expr} {mo ma mb : M} {apos cpos : Pos}
theorem mLm1_of {f : List D → D → Option (D × List D)} {r : V → List V → Hp → VK → Prop}
    (hf : ∀ (g : G) (l : Addr) (vs : List V) (xs : List D) (y : V) (d : D) (x : D) (ys : List D) (H : Hp) (Q : VK), RepL X.K g vs xs → Rep X.K g y d → H l = some (.lst vs) → f xs d = some (x, ys) →
      (∀ v ws, Rep X.K g v x → RepL X.K g ws ys → Q v (upd H l (.lst ws))) → r (.ref l) [y] H Q)
    {σ : St} {H : Hp} {Q : VK} {g : G} {s : S} (ok : Ok X.K g s σ H) (h : PostE X.K W σ g s H (kE X.K Q) (mLm1 f mo ma s)) : tBM X.K "list" r (tM X.K W mo) (tCons (tM X.K W ma) tNil) σ H Q := by
  refine ⟨g, s, ok, (PostE.bind h).mono fun rv g1 s1 H1 t1 k1 o1 h1 v rr => ?_⟩
  split at h1
  · rename_i l e1
    have hv := locOf_ok rr e1
    subst hv
    split at h1
    · rename_i zs e2
      obtain ⟨us, hu, _⟩ := cell_lst o1 e2
      refine ⟨.inl ⟨rfl, us, .of hu⟩, ?_⟩
      refine tM_leak o1 (PostE.bind h1) fun d g2 s2 H2 y t2 k2 o2 ry h2 => ?_
      have el : g2.adr l = g1.adr l := by
        cases l with
        | sl i => exact k2 i
        | gl n => exact t2.le.adr n (by rw [o1.ng]; exact gl_cell e2)
      split at h2
      · rename_i xs e3
        split at h2
        · rename_i x ys e4
          obtain ⟨vs, hvs, rvs⟩ := cell_lst o2 e3
          show r (.ref (g1.adr l)) [y] H2 Q
          rw [← el]
          exact hf g2 _ vs xs y d x ys H2 Q rvs ry hvs e4 fun v ws rv rw' => kE_change (o' := .lst ys) o2 e3 ⟨ws, upd_same, rw'⟩ rv h2
        · exact h2.elim
      · exact h2.elim
    · exact h1.elim
  · exact h1.elim
theorem me_append (ho : ME X W o mo) (ha : ME X W a ma) (hbase : attributeBase o "append" X.env (eval o X.env) = eval o X.env := by rfl)
    (hfew : ((backTo cpos (starEach [a] X.env)).all (fun x => !x.1) && (backToKw cpos (keywordEach [] X.env)).all (fun x => x.1.isSome)
      && decide ([a].length + ([] : List Keyword).length + (if ([] : List Keyword).isEmpty then 0 else 1) < 30)) = true := by rfl)
    (hline : (apos.endLine == cpos.line) = true := by rfl) (hs : starEach [a] X.env = (false, eval a X.env) :: starEach [] X.env := by rfl) :
    ME X W (.Call (.Attribute o "append" apos) [a] [] cpos) (mLm1 fAppend mo ma) := by
  have z := pe_bm PySem.F.plainAttrs_list PySem.F.slot_list_append PySem.F.type_list_append mt_append ho (pa_cons ha pa_nil hs) hbase hfew hline hs
  refine pe_imp z fun σ H Q h => ?_
  obtain ⟨g, s, ok, h⟩ := h
  refine mLm1_of (fun g l vs xs y d x ys H Q rvs ry hl e q => ?_) ok h
  clear h
  unfold fAppend at e
  split at e
  · rename_i hz
    cases e
    exact ⟨l, vs, y, rfl, rfl, hl, by rw [rvs.length]; exact hz, q _ _ .non (rvs.append (.one ry))⟩
  · cases e
end
end MI
/-! # Loops, comprehensions -/
namespace MI
open PySem L2

/-! ### what is walked -/
def Walk (K : PySem.W.Frag) (J : It) (ds : List D) (g : G) : Prop := ∀ g' s' σ' H', GLe g g' → Ok K g' s' σ' H' →
  J.stop ds.length H' ∧ ∀ i d, ds[i]? = some d → J.go i H' ∧ ∀ x H'', J.yld i H' x H'' → ∃ g'', Step g' H' g'' H'' ∧ SlKeep g' g'' ∧ Ok K g'' s' σ' H'' ∧ Rep K g'' x d
abbrev kI (K : PySem.W.Frag) (R : It → Hp → Prop) : List D → G → S → Hp → Prop := fun ds g _ H => ∀ J, Walk K J ds g → R J H
def tMI (K : PySem.W.Frag) (W : WX) (m : S → Res (List D)) : TI := fun σ H R => ∃ g s, Ok K g s σ H ∧ PostE K W σ g s H (kI K R) (m s)
def MIt (X : Cx) (W : WX) (tg iter : Expr) (m : S → Res (List D)) : Prop := PI X tg iter (tMI X.K W m)
theorem pi_imp {X : Cx} {tg e : Expr} {t t' : TI} (h : PI X tg e t) (i : ∀ σ H R, t' σ H R → t σ H R) : PI X tg e t' :=
  ⟨fun pins s σ H R I q => h.run pins s σ H R I (i σ H R q)⟩
/-- a target: what it does to the names -/
def MGk (K : PySem.W.Frag) (gt : TG) (is : List Nat) (t : D → S → Option S) : Prop :=
  ∀ g s σ H v d s', Ok K g s σ H → Rep K g v d → t d s = some s' → ∃ ws, Ok K g s' (setAll σ is ws) H ∧ ∀ Q : St → Hp → Prop, Q (setAll σ is ws) H → gt v σ H Q
structure MG (X : Cx) (tg : Expr) (gt : TG) (is : List Nat) (t : D → S → Option S) : Prop where
  pg : PG X tg gt
  ok : MGk X.K gt is t

def iSeq (m : M) : S → Res (List D) := fun s => (mLeak m s).bind fun d s1 => match d with
  | .lst xs => .ok xs s1
  | .tup xs => .ok xs s1
  | .scr xs => .ok xs s1
  | _ => .stuck
def iLst (m : M) : S → Res (List D) := fun s => (mLeak m s).bind fun d s1 => match d with
  | .lst xs => .ok xs s1
  | .scr xs => .ok xs s1
  | _ => .stuck
def iTup (m : M) : S → Res (List D) := fun s => (mLeak m s).bind fun d s1 => match d with
  | .tup xs => .ok xs s1
  | _ => .stuck
def rangeD (lo : Int) : Nat → List D
  | 0 => []
  | n + 1 => .int lo :: rangeD (lo + 1) n
theorem rangeD_len : ∀ (n : Nat) (lo : Int), (rangeD lo n).length = n
  | 0, _ => rfl
  | n + 1, lo => by rw [rangeD, List.length_cons, rangeD_len n]
theorem rangeD_get : ∀ (n : Nat) (lo : Int) (i : Nat) (d : D), (rangeD lo n)[i]? = some d → i < n ∧ d = .int (lo + i)
  | 0, _, _, _, e => by simp [rangeD] at e
  | n + 1, lo, 0, d, e => by simp [rangeD] at e; subst e; simp
  | n + 1, lo, i + 1, d, e => by
    obtain ⟨h1, h2⟩ := rangeD_get n (lo + 1) i d (by simpa [rangeD] using e)
    refine ⟨by omega, ?_⟩
    rw [h2]
    congr 1
    push_cast
    omega
theorem rng1_ex (j : Int) : ∃ r : Option (List D), r = if -(2 ^ 62) ≤ j ∧ j < 2 ^ 62 then some (rangeD 0 j.toNat) else none := ⟨_, rfl⟩
theorem rng2_ex (i j : Int) : ∃ r : Option (List D), r = if -(2 ^ 62) ≤ i ∧ i < 2 ^ 62 ∧ -(2 ^ 62) ≤ j ∧ j < 2 ^ 62 then some (rangeD i (j - i).toNat) else none := ⟨_, rfl⟩
/-- (by choice: nothing is worked out by the kernel) -/
noncomputable def rng1 (j : Int) : Option (List D) := Classical.choose (rng1_ex j)
noncomputable def rng2 (i j : Int) : Option (List D) := Classical.choose (rng2_ex i j)
theorem rng1_eq (j : Int) : rng1 j = if -(2 ^ 62) ≤ j ∧ j < 2 ^ 62 then some (rangeD 0 j.toNat) else none := Classical.choose_spec (rng1_ex j)
theorem rng2_eq (i j : Int) : rng2 i j = if -(2 ^ 62) ≤ i ∧ i < 2 ^ 62 ∧ -(2 ^ 62) ≤ j ∧ j < 2 ^ 62 then some (rangeD i (j - i).toNat) else none := Classical.choose_spec (rng2_ex i j)
noncomputable def iRange1 (m : S → Res (List D)) : S → Res (List D) := fun s => (m s).bind fun ds s1 => match ds with
  | [.int j] => (match rng1 j with
    | some l => .ok l s1
    | none => .stuck)
  | _ => .stuck
noncomputable def iRange2 (m : S → Res (List D)) : S → Res (List D) := fun s => (m s).bind fun ds s1 => match ds with
  | [.int i, .int j] => (match rng2 i j with
    | some l => .ok l s1
    | none => .stuck)
  | _ => .stuck
section
variable {K : PySem.W.Frag}
theorem walk_lst {g : G} {a : Addr} {vs : List V} {ds : List D} (h : SqL K g.F a vs) (r : RepL K g vs ds) (inj : ∀ H, Sub g.F H → ∀ xs, SqL K H a xs → xs = vs) : Walk K (Itl K a) ds g := by
  intro g' s' σ' H' l ok
  have hq : SqL K H' a vs := sqL_mono (l.F.trans ok.sub) h
  refine ⟨⟨vs, hq, by rw [r.length]; exact Nat.le_refl _⟩, fun i d e => ?_⟩
  obtain ⟨v, hv, rv⟩ := r.get e
  refine ⟨⟨vs, v, hq, hv⟩, fun x H'' ⟨e1, e2⟩ => ?_⟩
  subst e1
  have := e2 vs hq
  rw [hv] at this
  cases this
  exact ⟨g', Step.refl _ _, SlKeep.refl _, ok, rv.mono l⟩
theorem walk_lst' {g : G} {a : Addr} {vs : List V} {ds : List D} (h : SqL K g.F a vs) (r : RepL K g vs ds) : Walk K (Itl K a) ds g := by
  intro g' s' σ' H' l ok
  have hq : SqL K H' a vs := sqL_mono (l.F.trans ok.sub) h
  refine ⟨⟨vs, hq, by rw [r.length]; exact Nat.le_refl _⟩, fun i d e => ?_⟩
  obtain ⟨v, hv, rv⟩ := r.get e
  refine ⟨⟨vs, v, hq, hv⟩, fun x H'' ⟨e1, e2⟩ => ?_⟩
  subst e1
  have := e2 vs hq
  rw [hv] at this
  cases this
  exact ⟨g', Step.refl _ _, SlKeep.refl _, ok, rv.mono l⟩
theorem walk_tup {g : G} {a : Addr} {vs : List V} {ds : List D} (h : SqT K g.F a vs) (r : RepL K g vs ds) : Walk K (Itt K a) ds g := by
  intro g' s' σ' H' l ok
  have hq : SqT K H' a vs := sqT_mono (l.F.trans ok.sub) h
  refine ⟨⟨vs, hq, by rw [r.length]; exact Nat.le_refl _⟩, fun i d e => ?_⟩
  obtain ⟨v, hv, rv⟩ := r.get e
  refine ⟨⟨vs, v, hq, hv⟩, fun x H'' ⟨e1, e2⟩ => ?_⟩
  subst e1
  have := e2 vs hq
  rw [hv] at this
  cases this
  exact ⟨g', Step.refl _ _, SlKeep.refl _, ok, rv.mono l⟩
theorem walk_rng {g : G} {lo : Int} {n : Nat} : Walk K (Itr lo n) (rangeD lo n) g := by
  intro g' s' σ' H' l ok
  refine ⟨by rw [rangeD_len]; exact Nat.le_refl _, fun i d e => ?_⟩
  obtain ⟨h1, rfl⟩ := rangeD_get n lo i d e
  refine ⟨h1, fun x H'' ⟨e1, e2⟩ => ?_⟩
  subst e1 e2
  exact ⟨g', Step.refl _ _, SlKeep.refl _, ok, .int _⟩
end
section
variable {X : Cx} {W : WX} {tg e a b : Expr} {me : M} {m : S → Res (List D)} {p pos : Pos}
theorem mi_lst (he : ME X W e me) : MIt X W tg e (iLst me) := by
  refine pi_imp (pi_list he) fun σ H R h => ?_
  obtain ⟨g, s, ok, h⟩ := h
  refine tM_leak ok (PostE.bind h) fun d g1 s1 H1 v t1 k1 o1 rv h1 => ?_
  split at h1
  · cases rv with
    | lst hq r => exact ⟨_, rfl, ⟨_, .of (o1.sub _ _ hq)⟩, PostE.done h1 o1 _ (walk_lst' (.of hq) r)⟩
  · cases rv with
    | scr hq r => exact ⟨_, rfl, ⟨_, sqL_mono o1.sub hq⟩, PostE.done h1 o1 _ (walk_lst' hq r)⟩
  · exact h1.elim
theorem mi_tup (he : ME X W e me) : MIt X W tg e (iTup me) := by
  refine pi_imp (pi_tup he) fun σ H R h => ?_
  obtain ⟨g, s, ok, h⟩ := h
  refine tM_leak ok (PostE.bind h) fun d g1 s1 H1 v t1 k1 o1 rv h1 => ?_
  split at h1
  · cases rv with
    | tup hq r => exact ⟨_, rfl, ⟨_, sqT_mono o1.sub hq⟩, PostE.done h1 o1 _ (walk_tup hq r)⟩
  · exact h1.elim
/-- of two readings of what is walked the one that is not stuck -/
def orI (a b : S → Res (List D)) : S → Res (List D) := fun s => match a s with
  | .stuck => b s
  | r => r
theorem pi_or2 {t t' : TI} (h : PI X tg e t) (h' : PI X tg e t') : PI X tg e (fun σ H R => t σ H R ∨ t' σ H R) :=
  ⟨fun pins s σ H R I q => q.elim (h.run pins s σ H R I) (h'.run pins s σ H R I)⟩
theorem mi_alt {ma mb : S → Res (List D)} (ha : MIt X W tg e ma) (hb : MIt X W tg e mb) : MIt X W tg e (orI ma mb) := by
  refine pi_imp (pi_or2 ha hb) fun σ H Q h => ?_
  obtain ⟨g, s, ok, h⟩ := h
  unfold orI at h
  cases q : ma s with
  | ok a s' => simp only [q] at h; exact .inl ⟨g, s, ok, by rw [q]; exact h⟩
  | exc c p s' => simp only [q] at h; exact .inl ⟨g, s, ok, by rw [q]; exact h⟩
  | stuck => simp only [q] at h; exact .inr ⟨g, s, ok, h⟩
theorem mi_imp {m m' : S → Res (List D)} (h : MIt X W tg e m) (i : ∀ s, m' s = .stuck ∨ m' s = m s) : MIt X W tg e m' := by
  refine pi_imp h fun σ H R ⟨g, s, ok, h⟩ => ?_
  rcases i s with z | z
  · rw [z] at h; exact h.elim
  · rw [z] at h; exact ⟨g, s, ok, h⟩
theorem mi_seq (he : ME X W e me) : MIt X W tg e (iSeq me) := by
  refine mi_imp (mi_alt (mi_lst he) (mi_tup he)) fun s => ?_
  unfold iSeq orI iLst iTup
  cases h : mLeak me s with
  | ok d s1 => cases d <;> simp
  | exc c p s1 => simp
  | stuck => simp
theorem mi_range1 (ha : MA X W [a] m) (hg : Gl X "range") (hm : X.mg "range" = none) (hs : starEach [a] X.env = [(false, eval a X.env)] := by rfl) : MIt X W tg (.Call (.Name "range" p) [a] [] pos) (iRange1 m) := by
  refine pi_imp (pi_range1 hg hm ha hs) fun σ H R h => ?_
  obtain ⟨g, s, ok, h⟩ := h
  refine ⟨g, s, ok, (PostE.bind h).mono fun ds g1 s1 H1 t1 k1 o1 h1 vs rs => ?_⟩
  split at h1
  · cases rs with
    | cons r1 rs =>
      cases rs
      cases r1
      split at h1
      · rename_i hz
        rw [rng1_eq] at hz
        split at hz
        · rename_i hz2
          cases hz
          exact ⟨_, rfl, hz2.1, hz2.2, PostE.done h1 o1 _ walk_rng⟩
        · cases hz
      · exact h1.elim
  · exact h1.elim
theorem mi_range2 (ha : MA X W [a, b] m) (hg : Gl X "range") (hm : X.mg "range" = none) (hs : starEach [a, b] X.env = [(false, eval a X.env), (false, eval b X.env)] := by rfl) (hs2 : starEach [b] X.env = [(false, eval b X.env)] := by rfl) : MIt X W tg (.Call (.Name "range" p) [a, b] [] pos) (iRange2 m) := by
  refine pi_imp (pi_range2 hg hm ha hs hs2) fun σ H R h => ?_
  obtain ⟨g, s, ok, h⟩ := h
  refine ⟨g, s, ok, (PostE.bind h).mono fun ds g1 s1 H1 t1 k1 o1 h1 vs rs => ?_⟩
  split at h1
  · cases rs with
    | cons r1 rs =>
      cases rs with
      | cons r2 rs =>
        cases rs
        cases r1; cases r2
        split at h1
        · rename_i hz
          rw [rng2_eq] at hz
          split at hz
          · rename_i hz2
            cases hz
            exact ⟨_, _, rfl, hz2, PostE.done h1 o1 _ walk_rng⟩
          · cases hz
        · exact h1.elim
  · exact h1.elim
/-! ### targets -/
def tgName (i : Nat) : D → S → Option S := fun d s => assign i (.d d) s
def tgTup (is : List Nat) : D → S → Option S := fun d s => match d with
  | .tup ds => assignAll is (ds.map .d) s
  | _ => none
theorem mgk_name {K : PySem.W.Frag} {i : Nat} : MGk K (gName i) [i] (tgName i) := fun g s σ H v d s' ok r e => by
  simp only [tgName, assign] at e
  split at e
  · rename_i hl
    cases e
    exact ⟨[v], ok.setVal r hl, fun Q q => q⟩
  · cases e
theorem mg_name {i : Nat} {x : Str} (hN : X.N.Nodup) (hi : X.N[i]? = some x := by rfl) (hx : L2.Loc X.env.scope x := by first | exact Or.inl rfl | exact Or.inr rfl) (hf : X.fn x = true ∨ X.env.scope.names.lookup x = some .local := by first | exact .inl rfl | exact .inr rfl) :
    MG X (.Name x pos) (gName i) [i] (tgName i) := ⟨pg_name hN hi hx hf, mgk_name⟩
theorem assignAll_d {K : PySem.W.Frag} {g : G} {H : Hp} : ∀ {is : List Nat} {vs : List V} {ds : List D} {σ : St} {s s' : S}, Ok K g s σ H → RepL K g vs ds → assignAll is (ds.map .d) s = some s' → Ok K g s' (setAll σ is vs) H
  | [], _, _, σ, s, s', ok, .nil, e => by cases e; exact ok
  | [], _, _, σ, s, s', ok, .cons _ _, e => by cases e
  | i :: is, _, _, σ, s, s', ok, .nil, e => by cases e
  | i :: is, _, _, σ, s, s', ok, .cons (d := d) a b, e => by
    simp only [List.map_cons, assignAll, assign] at e
    split at e
    · rename_i s1 e1
      split at e1
      · rename_i hl
        cases e1
        have z := assignAll_d (ok.setVal a hl) b e
        exact z
      · cases e1
    · cases e
theorem mgk_tup {K : PySem.W.Frag} {is : List Nat} : MGk K (gTup K is.length (gNames is)) is (tgTup is) := fun g s σ H v d s' ok r e => by
  unfold tgTup at e
  split at e
  · rename_i ds
    cases r with
    | tup hq rl =>
      refine ⟨_, assignAll_d ok rl e, fun Q q => ?_⟩
      have hl := (assignAll_len e).trans ((List.length_map _).trans rl.length.symm)
      exact ⟨_, _, rfl, sqT_mono ok.sub hq, hl.symm, gNames_set hl q⟩
  · cases e
theorem mg_tup {ts : List Expr} {is : List Nat} {k : Nat} (hc : X.calm = true) (h : PGs X ts (gNames is)) (hn : (assignEach ts X.env).length = is.length := by rfl) (hst : (assignEach ts X.env).findIdx? (·.1) = none := by rfl) :
    MG X (.Tuple ts k pos) (gTup X.K is.length (gNames is)) is (tgTup is) := ⟨pg_tup hc h hn hst, mgk_tup⟩
end

/-! ### for -/
def forGo (t : D → S → Option S) (body : S → Res Out) : List D → S → Res Out
  | [], s => .ok .nx s
  | d :: ds, s => match t d s with
    | none => .stuck
    | some s1 => match body s1 with
      | .ok .nx s2 => forGo t body ds s2
      | .ok .ct s2 => forGo t body ds s2
      | .ok .bk s2 => .ok .nx s2
      | r => r
def mFor (it : S → Res (List D)) (t : D → S → Option S) (body : S → Res Out) : S → Res Out := fun s => (it s).bind fun ds s1 => forGo t body ds s1
section
variable {X : Cx} {W : WX} {tg iter : Expr} {body : List Stmt} {it : S → Res (List D)} {gt : TG} {is : List Nat} {t : D → S → Option S} {mb : S → Res Out} {pos : Pos}
theorem ms_for (hp : PassesOwn (model X.prog X.w) X.A X.env X.xe) (hc : X.calm = true) (hi : MIt X W tg iter it) (hg : MG X tg gt is t) (hb : MSs X W body mb)
    (hs : ∀ x, foldedSetIterable iter X.env x = pure x := by intro _; rfl) : MS X W (.For tg iter body [] pos) (mFor it t mb) := by
  refine ps_imp (ps_for hp hc hi hg.pg hb hs) fun D σ H h => ?_
  obtain ⟨g, s, ok, h⟩ := h
  refine ⟨g, s, ok, (PostS.bind h).mono fun ds g1 s1 H1 t1 k1 o1 h1 J hJ => ?_⟩
  refine ⟨fun i m σ' H' => m = ds.length - i ∧ i ≤ ds.length ∧ ∃ g' s', Step g1 H1 g' H' ∧ Ok X.K g' s' σ' H' ∧ PostS X.K W g' s' H' D (forGo t mb (ds.drop i) s'), ⟨ds.length, by simp, Nat.zero_le _, g1, s1, Step.refl _ _, o1, by simpa using h1⟩, ?_⟩
  rintro i m σ' H' ⟨rfl, hi, g', s', t', o', h'⟩
  obtain ⟨st, go⟩ := hJ g' s' σ' H' t'.le o'
  by_cases hlt : i < ds.length
  · obtain ⟨d, hd⟩ : ∃ d, ds[i]? = some d := ⟨_, List.getElem?_eq_getElem hlt⟩
    have hdrop : ds.drop i = d :: ds.drop (i + 1) := by
      rw [List.drop_eq_getElem_cons hlt]
      congr 1
      rw [List.getElem?_eq_getElem hlt] at hd
      exact Option.some.inj hd
    obtain ⟨go1, yl⟩ := go i d hd
    refine .inr ⟨go1, fun σ3 H3 => ∃ g3 s3, Step g1 H1 g3 H3 ∧ Ok X.K g3 s3 σ3 H3 ∧ PostS X.K W g3 s3 H3 D (forGo t mb (ds.drop (i + 1)) s3), fun σ3 H3 ⟨g3, s3, t3, o3, h3⟩ => ⟨ds.length - (i + 1), by omega, rfl, hlt, g3, s3, t3, o3, h3⟩, fun x H2 y => ?_⟩
    obtain ⟨g2, t2, k2, o2, r2⟩ := yl x H2 y
    have h2 := PostS.after (s' := s') h' t2
    rw [hdrop] at h2
    unfold forGo at h2
    cases e : t d s' with
    | none => simp only [e] at h2; exact h2.elim
    | some s2 =>
      simp only [e] at h2
      obtain ⟨ws, o2', hQ⟩ := hg.ok g2 s' σ' H2 x d s2 o2 r2 e
      refine hQ _ ⟨g2, s2, o2', ?_⟩
      have tt := t'.trans t2
      cases e2 : mb s2 with
      | ok o s3 =>
        simp only [e2] at h2
        cases o with
        | nx => exact fun σ3 g3 H3 t3 o3 => ⟨g3, s3, tt.trans t3, o3, PostS.after h2 t3⟩
        | ct => exact fun σ3 g3 H3 t3 o3 => ⟨g3, s3, tt.trans t3, o3, PostS.after h2 t3⟩
        | bk => exact fun σ3 g3 H3 t3 o3 => h2 σ3 g3 H3 t3 o3
        | rt d => exact fun v σ3 g3 H3 t3 o3 rv => h2 v σ3 g3 H3 t3 o3 rv
      | exc c p s3 => simp only [e2] at h2; exact h2
      | stuck => simp only [e2] at h2; exact h2
  · have e : i = ds.length := by omega
    subst e
    refine .inl ⟨st, ?_⟩
    rw [List.drop_length] at h'
    exact PostS.nx h' o'
end

/-! ### while -/
def whileGo (c : S → Res Bool) (b : S → Res Out) : Nat → S → Res Out
  | 0, _ => .stuck
  | n + 1, s => (c s).bind fun k s1 => if k = true then (match b s1 with
    | .ok .nx s2 => whileGo c b n s2
    | .ok .ct s2 => whileGo c b n s2
    | .ok .bk s2 => .ok .nx s2
    | r => r) else .ok .nx s1
open Classical in
noncomputable def mWhile (c : S → Res Bool) (b : S → Res Out) : S → Res Out := fun s => if h : ∃ n, whileGo c b n s ≠ .stuck then whileGo c b (Classical.choose h) s else .stuck
theorem whileGo_mono {c : S → Res Bool} {b : S → Res Out} : ∀ (n k : Nat) (s : S), whileGo c b n s ≠ .stuck → whileGo c b (n + k) s = whileGo c b n s
  | 0, _, _, h => absurd rfl h
  | n + 1, k, s, h => by
    have e : n + 1 + k = (n + k) + 1 := by omega
    rw [e]
    unfold whileGo at h ⊢
    cases hc : c s with
    | ok q s1 =>
      rw [hc] at h
      simp only [Res.bind_ok] at h ⊢
      by_cases hq : q = true
      · rw [if_pos hq] at h ⊢
        rw [if_pos hq]
        cases hb : b s1 with
        | ok o s2 =>
          rw [hb] at h
          cases o with
          | nx => exact whileGo_mono n k s2 h
          | ct => exact whileGo_mono n k s2 h
          | bk => rfl
          | rt d => rfl
        | exc _ _ _ => rfl
        | stuck => rfl
      · rw [if_neg hq, if_neg hq]
    | exc _ _ _ => rfl
    | stuck => rfl
theorem mWhile_eq {c : S → Res Bool} {b : S → Res Out} {n : Nat} {s : S} {r : Res Out} (h : whileGo c b n s = r) (hr : r ≠ .stuck) : mWhile c b s = r := by
  have hx : ∃ n, whileGo c b n s ≠ .stuck := ⟨n, by rw [h]; exact hr⟩
  unfold mWhile
  rw [dif_pos hx]
  have hy := Classical.choose_spec hx
  rcases Nat.le_total n (Classical.choose hx) with z | z
  · obtain ⟨k, hk⟩ := Nat.exists_eq_add_of_le z
    rw [hk, whileGo_mono n k s (by rw [h]; exact hr)]; exact h
  · obtain ⟨k, hk⟩ := Nat.exists_eq_add_of_le z
    rw [← whileGo_mono _ k s hy, ← hk]; exact h
section
variable {X : Cx} {W : WX} {c : Expr} {body : List Stmt} {mc : S → Res Bool} {mb : S → Res Out} {pos : Pos}
theorem ms_while (hp : PassesOwn (model X.prog X.w) X.A X.env X.xe) (hc : MT X W c mc) (hb : MSs X W body mb) : MS X W (.While c body [] pos) (mWhile mc mb) := by
  refine ps_imp (ps_while hp hc hb) fun D σ H h => ?_
  obtain ⟨g, s, ok, h⟩ := h
  unfold mWhile at h
  split at h
  · rename_i hx
    refine ⟨fun m σ H => ∃ g s, Ok X.K g s σ H ∧ PostS X.K W g s H D (whileGo mc mb m s), ⟨_, g, s, ok, h⟩, ?_⟩
    rintro m σ H ⟨g, s, ok, h⟩
    cases m with
    | zero => exact h.elim
    | succ m =>
      unfold whileGo at h
      refine ⟨g, s, ok, (PostS.bind h).mono fun k g1 s1 H1 t1 k1 o1 h1 => ?_⟩
      cases k with
      | true =>
        rw [if_pos rfl] at h1
        show (if true = true then _ else _)
        rw [if_pos rfl]
        refine ⟨fun σ3 H3 => ∃ g3 s3, Ok X.K g3 s3 σ3 H3 ∧ PostS X.K W g3 s3 H3 D (whileGo mc mb m s3), fun σ3 H3 z => ⟨m, Nat.lt_succ_self _, z⟩, g1, s1, o1, ?_⟩
        cases e2 : mb s1 with
        | ok o s3 =>
          simp only [e2] at h1
          cases o with
          | nx => exact fun σ3 g3 H3 t3 o3 => ⟨g3, s3, o3, PostS.after h1 t3⟩
          | ct => exact fun σ3 g3 H3 t3 o3 => ⟨g3, s3, o3, PostS.after h1 t3⟩
          | bk => exact fun σ3 g3 H3 t3 o3 => h1 σ3 g3 H3 t3 o3
          | rt d => exact fun v σ3 g3 H3 t3 o3 rv => h1 v σ3 g3 H3 t3 o3 rv
        | exc c p s3 => simp only [e2] at h1; exact h1
        | stuck => simp only [e2] at h1; exact h1
      | false =>
        rw [if_neg (by decide)] at h1
        show (if false = true then _ else _)
        rw [if_neg (by decide)]
        exact PostS.nx h1 o1
  · exact h.elim
end
end MI
/-! # List comprehensions -/
namespace MI
open PySem L2

def wipeE (env : List Slot) : List Nat → List Slot
  | [] => env
  | v :: vs => (wipeE env vs).set v .none
def restE (e1 e2 : List Slot) : List Nat → List Slot
  | [] => e2
  | v :: vs => (restE e1 e2 vs).set v ((e1[v]?).getD .none)
theorem wipeE_len (env : List Slot) : ∀ vs, (wipeE env vs).length = env.length
  | [] => rfl
  | v :: vs => by rw [wipeE, List.length_set, wipeE_len env vs]
theorem restE_len (e1 e2 : List Slot) : ∀ vs, (restE e1 e2 vs).length = e2.length
  | [] => rfl
  | v :: vs => by rw [restE, List.length_set, restE_len e1 e2 vs]
theorem wipeE_get (env : List Slot) : ∀ (vs : List Nat) (i : Nat), (wipeE env vs)[i]? = if i ∈ vs then (env[i]?).map (fun _ => Slot.none) else env[i]?
  | [], i => by simp [wipeE]
  | v :: vs, i => by
    rw [wipeE]
    by_cases h : i = v
    · subst h
      simp only [List.mem_cons, true_or, if_true]
      by_cases hl : i < env.length
      · rw [List.getElem?_set_self (by rw [wipeE_len]; exact hl), List.getElem?_eq_getElem hl]; rfl
      · rw [List.getElem?_eq_none (by rw [List.length_set, wipeE_len]; omega), List.getElem?_eq_none (by omega)]; rfl
    · rw [List.getElem?_set_ne (Ne.symm h), wipeE_get env vs i]
      simp [h]
theorem restE_get (e1 e2 : List Slot) (hl : e1.length = e2.length) : ∀ (vs : List Nat) (i : Nat), (restE e1 e2 vs)[i]? = if i ∈ vs then e1[i]? else e2[i]?
  | [], i => by simp [restE]
  | v :: vs, i => by
    rw [restE]
    by_cases h : i = v
    · subst h
      simp only [List.mem_cons, true_or, if_true]
      by_cases hi : i < e1.length
      · rw [List.getElem?_set_self (by rw [restE_len]; omega), List.getElem?_eq_getElem hi]; rfl
      · rw [List.getElem?_eq_none (by rw [List.length_set, restE_len]; omega), List.getElem?_eq_none (by omega)]
    · rw [List.getElem?_set_ne (Ne.symm h), restE_get e1 e2 hl vs i]
      simp [h]
theorem wipe_get (σ : St) : ∀ (vs : List Nat) (i : Nat), (wipe σ vs)[i]? = if i ∈ vs then (σ[i]?).map (fun _ => none) else σ[i]?
  | [], i => by simp [wipe]
  | v :: vs, i => by
    rw [wipe]
    by_cases h : i = v
    · subst h
      simp only [List.mem_cons, true_or, if_true]
      by_cases hl : i < σ.length
      · rw [List.getElem?_set_self (by rw [wipe_length]; exact hl), List.getElem?_eq_getElem hl]; rfl
      · rw [List.getElem?_eq_none (by rw [List.length_set, wipe_length]; omega), List.getElem?_eq_none (by omega)]; rfl
    · rw [List.getElem?_set_ne (Ne.symm h), wipe_get σ vs i]
      simp [h]
theorem setAll_len : ∀ (is : List Nat) (vs : List V) (σ : St), (setAll σ is vs).length = σ.length
  | [], _, _ => by simp [setAll]
  | _ :: _, [], _ => by simp [setAll]
  | i :: is, v :: vs, σ => by rw [setAll, setAll_len is vs, List.length_set]
theorem setAll_get : ∀ (is : List Nat) (vs : List V) (σ : St) (i : Nat), i ∉ is → (setAll σ is vs)[i]? = σ[i]?
  | [], _, _, _, _ => by simp [setAll]
  | _ :: _, [], _, _, _ => by simp [setAll]
  | j :: is, v :: vs, σ, i, h => by
    rw [setAll, setAll_get is vs _ i (fun z => h (List.mem_cons_of_mem _ z)), List.getElem?_set_ne (fun z => h (by rw [z]; exact List.mem_cons_self))]
theorem wipe_setAll {σ : St} {is vs : List Nat} {ws : List V} (h : ∀ i ∈ is, i ∈ vs) : wipe (setAll (wipe σ vs) is ws) vs = wipe σ vs := by
  apply List.ext_getElem?
  intro i
  rw [wipe_get, wipe_get]
  by_cases hi : i ∈ vs
  · rw [if_pos hi, if_pos hi]
    have hl : (setAll (wipe σ vs) is ws).length = σ.length := by rw [setAll_len, wipe_length]
    by_cases hl2 : i < σ.length
    · rw [List.getElem?_eq_getElem (by rw [hl]; exact hl2), List.getElem?_eq_getElem hl2]; rfl
    · rw [List.getElem?_eq_none (by rw [hl]; omega), List.getElem?_eq_none (by omega)]
  · rw [if_neg hi, if_neg hi, setAll_get _ _ _ _ (fun z => hi (h i z)), wipe_get, if_neg hi]
theorem wipe_wipe {σ : St} {vs : List Nat} : wipe (wipe σ vs) vs = wipe σ vs := by
  have := wipe_setAll (σ := σ) (is := []) (vs := vs) (ws := []) (fun _ h => nomatch h)
  simpa [setAll] using this
def noOwn (env : List Slot) (vs : List Nat) : Bool := vs.all fun v => match env[v]? with
  | some (.own _) => false
  | _ => true
def wipeS (s : S) (vs : List Nat) : S := { s with env := wipeE s.env vs }
section
variable {K : PySem.W.Frag} {σ : St} {g : G} {s : S} {H : Hp}
theorem cellOf_wipe {vs : List Nat} {l : Loc} {o : MObj} (e : cellOf (wipeS s vs) l = some o) : cellOf s l = some o ∧ ∀ i, l = .sl i → i ∉ vs := by
  cases l with
  | gl n => exact ⟨e, fun i z => nomatch z⟩
  | sl j =>
    have e' : (match (wipeE s.env vs)[j]? with | some (.own o) => some o | _ => none) = some o := e
    rw [wipeE_get] at e'
    by_cases h : j ∈ vs
    · rw [if_pos h] at e'
      cases q : s.env[j]? with
      | none => rw [q] at e'; cases e'
      | some w => rw [q] at e'; cases e'
    · rw [if_neg h] at e'
      exact ⟨e', fun i z => by cases z; exact h⟩
theorem Ok.wipe {vs : List Nat} (ok : Ok K g s σ H) : Ok K g (wipeS s vs) (wipe σ vs) H := by
  refine ⟨ok.sub, fun l o e => ok.cell l o (cellOf_wipe e).1, fun l l' o o' e e' z => ok.inj l l' o o' (cellOf_wipe e).1 (cellOf_wipe e').1 z, fun i x e => ?_, ?_, ok.ng, fun a p => ?_⟩
  · have e' : (wipeE s.env vs)[i]? = some x := e
    rw [wipeE_get] at e'
    by_cases h : i ∈ vs
    · rw [if_pos h] at e'
      cases q : s.env[i]? with
      | none => rw [q] at e'; cases e'
      | some w => rw [q] at e'; cases e'; trivial
    · rw [if_neg h] at e'
      have := ok.env i x e'
      cases x with
      | none => trivial
      | val d => obtain ⟨v, q, r⟩ := this; exact ⟨v, by rw [wipe_get, if_neg h]; exact q, r⟩
      | own o => show (L2.wipe σ vs)[i]? = _; rw [wipe_get, if_neg h]; exact this
  · show (wipeE s.env vs).length = (L2.wipe σ vs).length
    rw [wipeE_len, wipe_length, ok.len]
  · obtain ⟨h1, h2, h3⟩ := ok.prot a p
    exact ⟨h1, h2, fun ⟨l, o, e, z⟩ => h3 ⟨l, o, (cellOf_wipe e).1, z⟩⟩
/-- back from the block: the block's own names are as they were -/
theorem Ok.rest {vs : List Nat} {g' : G} {s' : S} {H' : Hp} (ok : Ok K g s σ H) (n : noOwn s.env vs = true) (ok' : Ok K g' s' (L2.wipe σ vs) H') (l : GLe g g') :
    Ok K g' { s' with env := restE s.env s'.env vs } σ H' := by
  have hl : s.env.length = s'.env.length := by
    have h1 := ok.len
    have h2 := ok'.len
    rw [wipe_length] at h2
    omega
  have no : ∀ i ∈ vs, ∀ o, s.env[i]? ≠ some (.own o) := fun i hi o e => by
    have := List.all_eq_true.mp n i hi
    rw [e] at this
    cases this
  have cs : ∀ {l o}, cellOf { s' with env := restE s.env s'.env vs } l = some o → cellOf s' l = some o := by
    intro l o e
    cases l with
    | gl n => exact e
    | sl j =>
      have e' : (match (restE s.env s'.env vs)[j]? with | some (.own o) => some o | _ => none) = some o := e
      rw [restE_get _ _ hl] at e'
      by_cases h : j ∈ vs
      · rw [if_pos h] at e'
        split at e'
        · rename_i w q
          exact absurd q (no j h _)
        · cases e'
      · rw [if_neg h] at e'
        exact e'
  refine ⟨ok'.sub, fun l o e => ok'.cell l o (cs e), fun l l' o o' e e' z => ok'.inj l l' o o' (cs e) (cs e') z, fun i x e => ?_, ?_, ok'.ng, fun a p => ?_⟩
  · have e' : (restE s.env s'.env vs)[i]? = some x := e
    rw [restE_get _ _ hl] at e'
    by_cases h : i ∈ vs
    · rw [if_pos h] at e'
      have := ok.env i x e'
      cases x with
      | none => trivial
      | val d => obtain ⟨v, q, r⟩ := this; exact ⟨v, q, r.mono l⟩
      | own o => exact absurd e' (no i h o)
    · rw [if_neg h] at e'
      have := ok'.env i x e'
      cases x with
      | none => trivial
      | val d => obtain ⟨v, q, r⟩ := this; exact ⟨v, by rw [wipe_get, if_neg h] at q; exact q, r⟩
      | own o =>
        have q : (L2.wipe σ vs)[i]? = _ := this
        rw [wipe_get, if_neg h] at q
        exact q
  · show (restE s.env s'.env vs).length = σ.length
    rw [restE_len, ← hl]; exact ok.len
  · obtain ⟨h1, h2, h3⟩ := ok'.prot a p
    exact ⟨h1, h2, fun ⟨l, o, e, z⟩ => h3 ⟨l, o, cs e, z⟩⟩
end
def compGo (vs : List Nat) (t : D → S → Option S) (c : S → Res Bool) (e : S → Res D) : List D → List D → S → Option (List D × S)
  | [], acc, s => some (acc, s)
  | d :: ds, acc, s => match t d s with
    | none => none
    | some s1 => match c s1 with
      | .ok b s2 => if b = true then (match e s2 with
          | .ok y s3 => if acc.length < sizeLine then compGo vs t c e ds (acc ++ [y]) (wipeS s3 vs) else none
          | _ => none)
        else compGo vs t c e ds acc (wipeS s2 vs)
      | _ => none
def mComp (vs : List Nat) (it : S → Res (List D)) (t : D → S → Option S) (c : S → Res Bool) (e : M) : M := fun s => (it s).bind fun ds s1 => if noOwn s1.env vs = true then (match compGo vs t c (mLeak e) ds [] (wipeS s1 vs) with
  | some (acc, s2) => .ok (.new (.lst acc)) { s2 with env := restE s1.env s2.env vs }
  | none => .stuck) else .stuck
def mYes : S → Res Bool := fun s => .ok true s
abbrev W0 : WX := fun _ _ _ _ => False
abbrev Blk (X : Cx) (scope : Scope) (P : Cx → Prop) : Prop := ∀ (s : Shared) (H : Hp) (C : Addr) (cl : List (Str × Addr)) (fp : List Addr), P (X.blk s H scope (PySem.compEnvC scope cl C X.env) fp)
def MTs (X : Cx) (W : WX) (ifs : List Expr) (m : S → Res Bool) : Prop := PTs X ifs (tMT X.K W m)
theorem mts_nil {X : Cx} {W : WX} : MTs X W [] mYes := ⟨fun pins s σ H Q I ⟨g, t, ok, h⟩ => pts_nil.run pins s σ H Q I (PostE.done (W := W) h ok)⟩
theorem mts_one {X : Cx} {W : WX} {c : Expr} {m : S → Res Bool} (h : MT X W c m) : MTs X W [c] m := pts_one h
section
variable {X : Cx} {W : WX}
theorem tLc_of {vs is : List Nat} {it : S → Res (List D)} {gt : TG} {t : D → S → Option S} {mc : S → Res Bool} {me : M} {σ : St} {H : Hp} {Q : VK} {g : G} {s : S}
    (hgt : MGk X.K gt is t) (hsub : ∀ i ∈ is, i ∈ vs)
    (ok : Ok X.K g s σ H) (h : PostE X.K W σ g s H (kE X.K Q) (mComp vs it t mc me s)) :
    tLc (tMI X.K W it) gt (tMT X.K W0 mc) (tM X.K W0 me) vs σ H Q := by
  refine ⟨g, s, ok, (PostE.bind h).mono fun ds g1 s1 H1 t1 k1 o1 h1 J hJ D hD => ?_⟩
  split at h1
  · rename_i hno
    split at h1
    · rename_i acc0 s0 hgo
      -- the new list at D is held
      have ok2 := o1.grow (o := .lst []) hD
      have hold := ok2.hold (a := D) (u := .lst []) upd_same (o1.fnone hD) (o1.lnone hD)
      refine ⟨fun i m H' => m = ds.length - i ∧ i ≤ ds.length ∧ ∃ g' s' acc avs, Step (g1.hold D) (upd H1 D (.lst [])) (g'.wP (g1.hold D).P) (upd H' D (.lst [])) ∧ SlKeep g1 g' ∧ g'.P = (g1.hold D).P ∧ Ok X.K g' s' (wipe σ vs) H' ∧ H' D = some (.lst avs) ∧ RepL X.K g' avs acc ∧
        compGo vs t mc (mLeak me) (ds.drop i) acc s' = some (acc0, s0), ⟨ds.length, by simp, Nat.zero_le _, g1.hold D, wipeS s1 vs, [], [], ?_, SlKeep.refl _, rfl, hold.wipe, upd_same, .nil, by simpa using hgo⟩, ?_⟩
      · refine ⟨⟨Sub.refl _, Nat.le_refl _, fun _ _ => rfl⟩, rfl, fun b _ => ?_⟩
        rw [upd_upd]
      rintro i m H' ⟨rfl, hi, g', s', acc, avs, st, sk, pp, o', hD', racc, hg'⟩
      have lg : GLe g1 g' := ⟨st.le.F, st.le.ng, st.le.adr⟩
      have pD : g'.P D := by rw [pp]; exact .inr rfl
      obtain ⟨stp, go⟩ := hJ g' s' _ H' lg o'
      by_cases hlt : i < ds.length
      · obtain ⟨d, hd⟩ : ∃ d, ds[i]? = some d := ⟨_, List.getElem?_eq_getElem hlt⟩
        have hdrop : ds.drop i = d :: ds.drop (i + 1) := by
          rw [List.drop_eq_getElem_cons hlt]
          congr 1
          rw [List.getElem?_eq_getElem hlt] at hd
          exact Option.some.inj hd
        obtain ⟨go1, yl⟩ := go i d hd
        refine .inr ⟨go1, fun H3 => ∃ g3 s3 acc avs, Step (g1.hold D) (upd H1 D (.lst [])) (g3.wP (g1.hold D).P) (upd H3 D (.lst [])) ∧ SlKeep g1 g3 ∧ g3.P = (g1.hold D).P ∧ Ok X.K g3 s3 (wipe σ vs) H3 ∧ H3 D = some (.lst avs) ∧ RepL X.K g3 avs acc ∧
          compGo vs t mc (mLeak me) (ds.drop (i + 1)) acc s3 = some (acc0, s0), fun H3 z => ⟨ds.length - (i + 1), by omega, rfl, hlt, z⟩, fun x H2 y => ?_⟩
        obtain ⟨g2, t2, k2, o2, r2⟩ := yl x H2 y
        rw [hdrop] at hg'
        unfold compGo at hg'
        cases e : t d s' with
        | none => simp only [e] at hg'; cases hg'
        | some s2 =>
          simp only [e] at hg'
          obtain ⟨ws, o2', hQ⟩ := hgt g2 s' (wipe σ vs) H2 x d s2 o2 r2 e
          refine hQ _ ⟨wipe_setAll hsub, g2, s2, o2', ?_⟩
          -- what has been kept so far
          have acc2 : ∀ {g3 : G} {H3 : Hp}, Step g2 H2 g3 H3 → SlKeep g2 g3 → g3.P = (g1.hold D).P ∧ Step (g1.hold D) (upd H1 D (.lst [])) (g3.wP (g1.hold D).P) (upd H3 D (.lst [])) ∧ SlKeep g1 g3 ∧ H3 D = some (.lst avs) ∧ RepL X.K g3 avs acc := by
            intro g3 H3 t3 k3
            have tt := t2.trans t3
            have p3 : g3.P = (g1.hold D).P := tt.P.trans pp
            refine ⟨p3, ⟨⟨st.le.F.trans tt.le.F, Nat.le_trans st.le.ng tt.le.ng, fun n hn => (tt.le.adr n (Nat.lt_of_lt_of_le hn st.le.ng)).trans (st.le.adr n hn)⟩, rfl, fun b hb => ?_⟩, fun j => (k3 j).trans ((k2 j).trans (sk j)), (tt.keep D pD).trans hD', racc.mono tt.le⟩
            by_cases hbD : b = D
            · rw [hbD, upd_same, upd_same]
            · have q := st.keep b hb
              rw [upd_ne hbD, upd_ne hbD] at q ⊢
              exact (tt.keep b (by rw [pp]; exact hb)).trans q
          cases e2 : mc s2 with
          | ok b s3 =>
            simp only [e2] at hg'
            intro g3 H3 t3 k3 o3
            show (if b = true then _ else _)
            cases b with
            | true =>
              rw [if_pos rfl] at hg'
              rw [if_pos rfl]
              unfold mLeak at hg'
              refine ⟨g3, s3, o3, ?_⟩
              cases e3 : me s3 with
              | ok r s4 =>
                simp only [e3, Res.bind_ok] at hg'
                intro g4 H4 t4 k4 o4 v rv
                cases e4 : leak r s4 with
                | none => simp only [e4] at hg'; cases hg'
                | some pr =>
                  obtain ⟨y, s5⟩ := pr
                  simp only [e4] at hg'
                  obtain ⟨g5, t5, k5, o5, ry⟩ := leak_ok o4 rv e4
                  obtain ⟨p5, st5, sk5, hD5, ra5⟩ := acc2 ((t3.trans t4).trans t5) ((k3.trans k4).trans k5)
                  by_cases hz : acc.length < sizeLine
                  · rw [if_pos hz] at hg'
                    have pD5 : g5.P D := by rw [p5]; exact .inr rfl
                    obtain ⟨_, f5, l5⟩ := o5.prot D pD5
                    refine ⟨avs, hD5, by rw [ra5.length]; exact hz, g5, wipeS s5 vs, acc ++ [y], avs ++ [v], ?_, sk5, p5, ?_, upd_same, ra5.append (.one ry), hg'⟩
                    · rw [upd_upd]; exact st5
                    · -- the list at D grows: it is nobody's in the store
                      have ow := o5.wipe (vs := vs)
                      rw [show L2.wipe (setAll (L2.wipe σ vs) is ws) vs = L2.wipe σ vs from wipe_setAll hsub] at ow
                      refine ⟨fun b u e => ?_, fun l o e => ?_, ow.inj, ow.env, ow.len, ow.ng, fun b p => ?_⟩
                      · rw [upd_ne (fun z => by rw [z, f5] at e; cases e)]; exact ow.sub b u e
                      · obtain ⟨f, r⟩ := ow.cell l o e
                        exact ⟨f, r.mono (GLe.refl _) (upd_ne fun z => l5 ⟨l, o, (cellOf_wipe e).1, z⟩)⟩
                      · obtain ⟨h1, h2, h3⟩ := ow.prot b p
                        refine ⟨?_, h2, h3⟩
                        by_cases z : b = D
                        · exact ⟨_, by rw [z]; exact upd_same⟩
                        · rw [upd_ne z]; exact h1
                  · rw [if_neg hz] at hg'; cases hg'
              | exc c p s4 => simp only [e3, Res.bind_exc] at hg'; cases hg'
              | stuck => simp only [e3, Res.bind_stuck] at hg'; cases hg'
            | false =>
              rw [if_neg (by decide)] at hg'
              rw [if_neg (by decide)]
              obtain ⟨p5, st5, sk5, hD5, ra5⟩ := acc2 t3 k3
              have ow := o3.wipe (vs := vs)
              rw [show L2.wipe (setAll (L2.wipe σ vs) is ws) vs = L2.wipe σ vs from wipe_setAll hsub] at ow
              exact ⟨g3, wipeS s3 vs, acc, avs, st5, sk5, p5, ow, hD5, ra5, hg'⟩
          | exc c p s3 => simp only [e2] at hg'; cases hg'
          | stuck => simp only [e2] at hg'; cases hg'
      · have e : i = ds.length := by omega
        subst e
        refine .inl ⟨stp, ?_⟩
        rw [List.drop_length] at hg'
        cases hg'
        -- back: D is let go
        have ob := o'.unhold (g0 := g1) (a := D) pp
        obtain ⟨_, fD, lD⟩ := o'.prot D pD
        have npD : ¬ g1.P D := o1.pnone hD
        have obr := o1.rest hno ob (show GLe g1 (g'.wP g1.P) from ⟨lg.F, lg.ng, lg.adr⟩)
        refine h1 (g'.wP g1.P) H' ⟨⟨lg.F, lg.ng, lg.adr⟩, rfl, fun b hb => ?_⟩ sk obr (.ref D) ⟨D, rfl, fD, npD, fun ⟨l, o, e, z⟩ => lD ?_, avs, hD', racc.mono wP_le⟩
        · have hbD : b ≠ D := fun z => npD (z ▸ hb)
          have q := st.keep b (.inl hb)
          rw [upd_ne hbD, upd_ne hbD] at q
          exact q
        · -- a cell of the restored state is one of the block's
          cases l with
          | gl n => exact ⟨.gl n, o, e, z⟩
          | sl j =>
            have hl : s1.env.length = s0.env.length := by
              have h1 := o1.len
              have h2 := o'.len
              rw [wipe_length] at h2
              omega
            have e' : (match (restE s1.env s0.env vs)[j]? with | some (.own o) => some o | _ => none) = some o := e
            rw [restE_get _ _ hl] at e'
            by_cases hj : j ∈ vs
            · rw [if_pos hj] at e'
              split at e'
              · rename_i w q
                have := List.all_eq_true.mp hno j hj
                rw [q] at this
                cases this
              · cases e'
            · rw [if_neg hj] at e'
              exact ⟨.sl j, o, e', z⟩
    · exact h1.elim
  · exact h1.elim
variable {elt tg iter : Expr} {ifs : List Expr} {scope : Scope} {own : List (Str × Nat)} {pos : Pos} {it : S → Res (List D)} {gt : TG} {is : List Nat} {t : D → S → Option S} {mc : S → Res Bool} {me : M}
theorem me_comp (hc : X.calm = true) (hN : X.N.Nodup) (hi : MIt X W tg iter it) (ok : BlkOk X.N X.env.scope scope own) (hgk : MGk X.K gt is t) (hsub : ∀ i ∈ is, i ∈ own.map (·.2))
    (hg : Blk X scope fun Y => PG Y tg gt) (ht : Blk X scope fun Y => MTs Y W0 ifs mc) (he : Blk X scope fun Y => ME Y W0 elt me) (hs : ∀ x, foldedSetIterable iter X.env x = pure x := by intro _; rfl) :
    ME X W (.ListComp elt [⟨tg, iter, ifs, 0⟩] scope pos) (mComp (own.map (·.2)) it t mc me) := by
  have z := pe_lc (pos := pos) (tt := tMT X.K W0 mc) (te := tM X.K W0 me) hc hN hi ok (fun s H C cl fp => hg s H C cl fp) (fun s H C cl fp => ht s H C cl fp) (fun s H C cl fp => he s H C cl fp) hs
  refine pe_imp z fun σ H Q h => ?_
  obtain ⟨g, s, o, h⟩ := h
  exact tLc_of hgk hsub o h
/-- name = [..] on one line, the name a local -/
theorem ms_setComp {i : Nat} {y : Str} {py spos : Pos} (hc : X.calm = true) (hN : X.N.Nodup) (hi : MIt X W tg iter it) (ok : BlkOk X.N X.env.scope scope own) (hgk : MGk X.K gt is t) (hsub : ∀ i ∈ is, i ∈ own.map (·.2))
    (hg : Blk X scope fun Y => PG Y tg gt) (ht : Blk X scope fun Y => MTs Y W0 ifs mc) (he : Blk X scope fun Y => ME Y W0 elt me) (hy : X.N[i]? = some y := by rfl) (hyl : X.env.scope.names.lookup y = some .local := by rfl)
    (hsw : swapsWith (.ListComp elt [⟨tg, iter, ifs, 0⟩] scope pos) (some (.Name y py)) spos.line X.env = pure true := by exact sw_true rfl rfl rfl (by decide +kernel)) (hs : ∀ x, foldedSetIterable iter X.env x = pure x := by intro _; rfl) :
    MS X W (.Assign [.Name y py] (.ListComp elt [⟨tg, iter, ifs, 0⟩] scope pos) spos) (mSet i (mComp (own.map (·.2)) it t mc me)) := by
  have z := ps_setLc (tt := tMT X.K W0 mc) (te := tM X.K W0 me) hc hN hy hyl hsw hi ok (fun s H C cl fp => hg s H C cl fp) (fun s H C cl fp => ht s H C cl fp) (fun s H C cl fp => he s H C cl fp) hs
  refine ps_imp z fun D σ H h => ?_
  obtain ⟨g, s, o, h⟩ := h
  refine tLc_of hgk hsub o ((PostS.bind h).mono fun r g1 s1 H1 t1 k1 o1 h1 v rv => ?_)
  show D.nx (σ.set i (some v)) H1
  split at h1
  · rename_i s2 e2
    obtain ⟨g2, t2, o2⟩ := assign_ok o1 rv e2
    exact h1 _ g2 H1 t2 o2
  · exact h1.elim
end
end MI
/-! # Functions by name -/
namespace MI
open PySem PySem.Spec PyProof.Rows L2

/-- the name x stands for a def that keeps fm's promise -/
structure FnM (P : Program) (w : World) (K : PySem.W.Frag) (mg : Str → Option Value) (base : Heap) (k : Nat) (x : Str) (ps : List Str) (fm : Fm) : Prop where
  ex : ∃ f fd, FnOk P w K mg base (L2.CX P w) k f fd ps (spM K fm) ∧ mg x = some (.ref f) ∧ PySem.W.keepIn K (.ref f) = true ∧ Binds K fd ps [] ∧
    (∃ oc od osl, K.lookup f = some ⟨oc, od, .func fd, osl⟩) ∧ ∀ (s : Shared) (us : List Value), us.length = ps.length → BindsTo s fd ⟨us, []⟩ (ps.zip us)
/-- every parameter is given by place -/
def BindOk (x : Str) (args : Arguments) (body : List Stmt) (scope : Scope) (ps : List Str) : Prop :=
  ∀ (kV doc pm : Value) (an : Option Addr) (cdv ct : Value) (us : List Value), us.length = ps.length → bindArgs (PySem.W.fnOf x x args body scope .none kV doc pm an cdv ct) ⟨us, []⟩ = pure (ps.zip us)
/-- what the head says of a def by name -/
def DefM (K : PySem.W.Frag) (mg : Str → Option Value) (x : Str) (args : Arguments) (body : List Stmt) (scope : Scope) : Prop :=
  ∃ f fd, FunD K x x args body scope [] [] f fd ∧ mg x = some (.ref f)
section
variable {X : Cx} {W : WX} {e : Expr} {es : List Expr} {m : S → Res (List D)} {pos p : Pos} {k j : Nat} {ps : List Str} {fm : Fm} {x : Str}
theorem me_fn (F : FnM X.prog X.w X.K X.mg X.base k x ps fm) (hr : Room j X.A) (hj : k ≤ j) (hg : Gl X x) (tk : Takes X W)
    (ha : MA X W (e :: es) m) (hdb : (x == ("__debug__" : Str)) = false := by decide) (he : starEach (e :: es) X.env = (false, eval e X.env) :: starEach es X.env := by rfl) (hpl : (backTo pos (starEach es X.env)).any (·.1) = false := by rfl) :
    ME X W (.Call (.Name x p) (e :: es) [] pos) (mCall fm m) := by
  obtain ⟨f, fd, F1, hm, hk, hb, _⟩ := F.ex
  exact me_call F1 (hr.mono hj) hg hm hk hb tk ha hdb he hpl
end
abbrev wx (E : XK) : WX := fun cls d _ H => E cls d H
theorem takesC {P : Program} {w : World} {K : PySem.W.Frag} {mg : Str → Option Value} {base : Heap} {N : List Str} {qual : Str} {scope : Scope} {f : Addr} {cd : Value} {A : Around} {outer : List Env} {s : Shared} {H : Hp} {E : XK} :
    Takes (cxOf (L2.CX P w) P w K mg base N qual scope f cd A outer s H E) (wx E) := L2.takes_of rfl rfl rfl rfl
theorem takesB {X : Cx} : Takes X W0 := L2.takes0
theorem owns {P : Program} {w : World} {K : PySem.W.Frag} {mg : Str → Option Value} {base : Heap} {N : List Str} {qual : Str} {scope : Scope} {f : Addr} {cd : Value} {A : Around} {outer : List Env} {s : Shared} {H : Hp} {E : XK} {CX : CXT} :
    PassesOwn (model P w) (cxOf CX P w K mg base N qual scope f cd A outer s H E).A (cxOf CX P w K mg base N qual scope f cd A outer s H E).env (cxOf CX P w K mg base N qual scope f cd A outer s H E).xe :=
  passes_of (X := cxOf CX P w K mg base N qual scope f cd A outer s H E) (K := fun e s'' => CX outer H s E e s'') (E₁ := fun e' s'' => CX outer H s E e' s'') rfl
theorem mss_stuck {X : Cx} {W : WX} {st : List Stmt} : MSs X W st (fun _ => .stuck) := pss_imp pss_never fun D σ H ⟨g, s, ok, h⟩ => h
section
variable {P : Program} {w : World} {K : PySem.W.Frag} {mg : Str → Option Value} {base : Heap} {x : Str} {args : Arguments} {body : List Stmt} {scope : Scope} {N ps : List Str} {k : Nat} {m : S → Res Out}
theorem fnM (F : DefM K mg x args body scope) (Sc : FnScope N ps scope) (hN : ps.length ≤ N.length)
    (hB : BindOk x args body scope ps)
    (hbody : ∀ (f : Addr) (cdv : Value) (A : Around) (outer : List Env) (s : Shared) (H : Hp) (E : XK), Room k (A.deeper (envOfC x scope s.heap.objs.size f cdv)) →
      MSs (cxOf (L2.CX P w) P w K mg base N x scope f cdv A outer s H E) (wx E) body m) :
    FnM P w K mg base (k + 1) x ps (mDef ps.length N.length m) := by
  obtain ⟨f, fd, F1, hm⟩ := F
  refine ⟨f, fd, fn_mirror F1 Sc hN (fun cdv A outer s H E hr => hbody f cdv A outer s H E hr), hm, F1.kp, F1.bindsN hB, ?_, F1.bindsA hB⟩
  obtain ⟨oc, od, dV, kV, doc, pm, an, cdv, ct, osl, e, lk, _⟩ := F1.ex
  exact ⟨oc, od, osl, e ▸ lk⟩
end

/-! ### names of the module -/
section
variable {X : Cx} {W : WX} {x : Str} {pos : Pos}
def GInt (mg : Str → Option Value) (x : Str) (i : Int) : Prop := ∃ t, mg x = some (.int i t)
def GStr (mg : Str → Option Value) (x : Str) (z : Str) : Prop := ∃ t, mg x = some (.str z t)
/-- a tuple of the module, for good -/
def GTup (K : PySem.W.Frag) (mg : Str → Option Value) (x : Str) (vs : List V) : Prop := ∃ a, mg x = some (.ref a) ∧ ∀ H, SqT K H a vs
theorem me_gint {i : Int} (h : GInt X.mg x i) (hg : Gl X x) (hd : (x == ("__debug__" : Str)) = false := by decide) : ME X W (.Name x pos) (mC (.int i)) := by
  obtain ⟨t, e⟩ := h
  exact me_glob hg e (v := .int i) ⟨t, rfl⟩ (fun g => .int i) hd
theorem me_gstr {z : Str} (h : GStr X.mg x z) (hg : Gl X x) (hd : (x == ("__debug__" : Str)) = false := by decide) : ME X W (.Name x pos) (mC (.str z)) := by
  obtain ⟨t, e⟩ := h
  exact me_glob hg e (v := .str z) ⟨t, rfl⟩ (fun g => .str z) hd
theorem me_gtup {vs : List V} {ds : List D} (h : GTup X.K X.mg x vs) (r : ∀ g, RepL X.K g vs ds) (hg : Gl X x) (hd : (x == ("__debug__" : Str)) = false := by decide) : ME X W (.Name x pos) (mC (.tup ds)) := by
  obtain ⟨a, e, q⟩ := h
  exact me_glob hg e (v := .ref a) rfl (fun g => .tup (q g.F) (r g)) hd
end
/-- a block's own names, seen by a test -/
def blkB (N : List Str) (sc scope : Scope) (own : List (Str × Nat)) : Bool :=
  decide (scope.kind = .function) && (decide (∀ y ∈ scope.names, scope.names.lookup y.1 = some y.2) && (decide (∀ p ∈ own, N[p.2]? = some p.1) &&
    (decide (∀ y ∈ scope.names, y.2 = .free → sc.names.lookup y.1 = some .cell ∨ sc.names.lookup y.1 = some .free) &&
      decide (∀ y ∈ scope.names, y.2 = .local ∨ y.2 = .cell → y.1 ∈ own.map (·.1) ∨ y.1 ∉ N))))
theorem blk_of {N : List Str} {sc scope : Scope} {own : List (Str × Nat)} (h : blkB N sc scope own = true) : BlkOk N sc scope own := by
  unfold blkB at h
  simp only [Bool.and_eq_true, decide_eq_true_eq] at h
  obtain ⟨h1, h2, h3, h4, h5⟩ := h
  exact ⟨h1, h2, h3, h4, h5⟩
def scB (N P : List Str) (sc : Scope) : Bool :=
  decide (sc.kind = .function) && (!sc.isCoroutine && (!sc.isGenerator && (decide N.Nodup && (decide (N.take P.length = P) && (decide (∀ x ∈ P, sc.names.lookup x = some .local ∨ sc.names.lookup x = some .cell) && decide (∀ y ∈ sc.names, y.2 ≠ .free))))))
theorem sc_of {N P : List Str} {sc : Scope} (h : scB N P sc = true) : FnScope N P sc := by
  unfold scB at h
  simp only [Bool.and_eq_true, decide_eq_true_eq, Bool.not_eq_true'] at h
  obtain ⟨h1, h2, h3, h4, h5, h6, h7⟩ := h
  exact ⟨h1, h2, h3, h4, h5, h6, h7⟩
end MI
/-! # Repetition, stores at a place, shared objects -/
namespace MI
open PySem PySem.Spec PyProof.Rows L2

/-! ### a tuple once, or an empty one: the same object -/
theorem tuple_mul_same (l : Addr) (items : Array Value) (n : Nat) (dd : Option Addr) (sl : Array (Option Value)) (x : Int) (u : Tok) (c0 : (decide (x < -(2 ^ 63)) || decide (x ≥ 2 ^ 63)) = false) (c1 : (items.isEmpty || x == 1) = true) :
    Meets (Builtin.«tuple.__mul__» ⟨[.ref l, .int x u], []⟩) (fun _ R s => s.heap.get? l = some { cls := .type "tuple", dict := dd, data := .seq items n, slots := sl } ∧ R (.ok (.ret (Value.ref l))) s) :=
  .of_wp fun prog w A R s h => by
    obtain ⟨hp, g, d, tk, os⟩ := s
    obtain ⟨hl, h⟩ := h
    have f1 := AutoSeq1.idx_int
    wp_walk using wpAny_loadPart' hl
    repeat (first
      | (refine wpAny_ite_false (decide_eq_false (by rw [c0]; exact Bool.false_ne_true)) ?_; wp_walk using wpAny_loadPart' hl)
      | (refine wpAny_ite_true (decide_eq_true c1) ?_; wp_walk using wpAny_loadPart' hl))
    all_goals exact ⟨_, rfl, h⟩
def rSameT (K : PySem.W.Frag) : R2 := fun x y H Q => ∃ l k xs, x = .ref l ∧ y = .int k ∧ SqT K H l xs ∧ (xs = [] ∨ k = 1) ∧ -(2 ^ 63) ≤ k ∧ k < 2 ^ 63 ∧ Q x H

section
variable {X : Cx} {W : WX}
theorem op_sameT : OpR X (binaryOp .Mult) (rSameT X.K) := by
  intro pins s σ H x y v u Q I rx ry h
  obtain ⟨l, k, xs, rfl, rfl, hT, hone, h1, h2, q⟩ := h
  cases rx
  obtain ⟨t, rfl⟩ := ry
  obtain ⟨its, r, ⟨⟨cls, dd, data, sl⟩, ho, hc, n, hd⟩, hs⟩ := I.tuple hT
  simp only at hc hd
  subst hc hd
  have same : (its.toArray.isEmpty || k == 1) = true := by
    rcases hone with z | z
    · subst z
      cases r
      rfl
    · subst z
      simp
  have inr : (decide (k < -(2 ^ 63)) || decide (k ≥ 2 ^ 63)) = false := by
    have a : ¬ k < -(2 ^ 63) := by omega
    have b : ¬ k ≥ 2 ^ 63 := by omega
    simp only [decide_eq_false a, decide_eq_false b, Bool.or_self]
  refine wpAny_binaryOp_repeat_ref (T := "tuple") (U := "int") (by decide) ⟨_, ho, rfl⟩ (fun s' => typeIs_int s' k t) noFill_tuple_mul F.fills_int_mul F.slot_int_rmul repeat_tuple F.slot_int_index.lookup ?_
  refine call_meets F.slot_int_rmul (typeIs_int s k t) F.entry_int_rmul (F.args_int_rmul_2 _ _) (int_rmul_tuple k t l its.toArray n dd sl) ⟨ho, rfl, ⟨_, ho, rfl⟩, ?_⟩
  exact call_meets F.slot_tuple_mul ⟨_, ho, rfl⟩ F.entry_tuple_mul (F.args_tuple_mul_2 _ _) (tuple_mul_same l its.toArray n dd sl k t inr same) ⟨ho, ⟨.ref l, H, I, rfl, q⟩⟩
/-- a text repeated -/
def repS (x : Str) (n : Int) : Str := if n < 1 then Str.empty else if (n == 1 || x.length == 0) = true then x else ⟨(List.replicate n.toNat x.cps).foldl (· ++ ·) #[]⟩
def rRepS : R2 := fun x y H Q => ∃ (z : Str) (k : Int), x = .str z ∧ y = .int k ∧ -1000 ≤ k ∧ k ≤ 1000 ∧ z.length ≤ 1000 ∧ Q (.str (repS z k)) H
theorem op_repS : OpR X (binaryOp .Mult) rRepS := by
  intro pins s σ H x y v u Q I rx ry h
  obtain ⟨z, k, rfl, rfl, h1, h2, hz, q⟩ := h
  obtain ⟨t, rfl⟩ := rx
  obtain ⟨t', rfl⟩ := ry
  refine PySem.P.mul_str ?_ (fun c1 _ => ?_) (fun c1 _ => ?_) ?_
  · have a : ¬ k < -(2 ^ 63) := by omega
    have b : ¬ k ≥ 2 ^ 63 := by omega
    simp only [decide_eq_false a, decide_eq_false b, Bool.or_self]
  · have k1 : 1 ≤ k := by omega
    have a1 : (1000 : Int) ≤ (2 ^ 63 - 1) / k := by
      rw [Int.le_ediv_iff_mul_le (by omega)]
      omega
    omega
  · have a1 : z.length * k.toNat ≤ 1000 * 1000 := Nat.mul_le_mul hz (by omega)
    have : ¬ (z.length * k.toNat > sizeLine) := by rw [sizeLine_eq]; omega
    exact decide_eq_false this
  · unfold repS at q
    split
    · rename_i c
      rw [if_pos c] at q
      exact ⟨by rw [sizeLine_eq]; decide, .str Str.empty, H, I.tok _, ⟨_, rfl⟩, q⟩
    · rename_i c
      rw [if_neg c] at q
      split
      · rename_i c2
        rw [if_pos c2] at q
        exact ⟨.str z, H, I, ⟨_, rfl⟩, q⟩
      · rename_i c2
        rw [if_neg c2] at q
        refine ⟨?_, .str _, H, I.tok _, ⟨_, rfl⟩, q⟩
        have key : ∀ (m : Nat) (acc : Array Nat), ((List.replicate m z.cps).foldl (· ++ ·) acc).size = acc.size + m * z.cps.size := by
          intro m
          induction m with
          | zero => intro acc; simp
          | succ m ih => intro acc; rw [List.replicate_succ, List.foldl_cons, ih, Array.size_append, Nat.succ_mul]; omega
        show ((List.replicate k.toNat z.cps).foldl (· ++ ·) #[]).size ≤ sizeLine
        rw [key]
        have a1 : k.toNat * z.cps.size ≤ 1000 * 1000 := Nat.mul_le_mul (by omega) hz
        rw [sizeLine_eq]
        simp
        omega
def opMulT : S → RV → RV → Res RV := fun s a b => match asTup a, asInt b with
  | some xs, some k => if (xs.isEmpty || k == 1) = true then (if -(2 ^ 63) ≤ k ∧ k < 2 ^ 63 then .ok (.d (.tup xs)) s else .stuck)
    else if 2 ≤ k ∧ k ≤ 1000 ∧ xs.length ≤ 1000 then .ok (.d (.tup (List.replicate k.toNat xs).flatten)) s else .stuck
  | _, _ => .stuck
def opMulS : S → RV → RV → Res RV := fun s a b => match asStr a, asInt b with
  | some x, some k => if -1000 ≤ k ∧ k ≤ 1000 ∧ x.length ≤ 1000 then .ok (.d (.str (repS x k))) s else .stuck
  | _, _ => .stuck
def opMulL : S → RV → RV → Res RV := fun s a b => match asLst s a, asInt b with
  | some xs, some k => if -(2 ^ 63) ≤ k ∧ k < 2 ^ 63 ∧ xs.length * k.toNat ≤ sizeLine then .ok (.new (.lst (List.replicate k.toNat xs).flatten)) s else .stuck
  | _, _ => .stuck
theorem RepL.rep {K : PySem.W.Frag} {g : G} {vs : List V} {ds : List D} (r : RepL K g vs ds) : ∀ k : Nat, RepL K g (List.replicate k vs).flatten (List.replicate k ds).flatten
  | 0 => .nil
  | k + 1 => by
    rw [List.replicate_succ, List.replicate_succ, List.flatten_cons, List.flatten_cons]
    exact r.append (r.rep k)
theorem os_mulT : OpS X W (fun x y H Q => rSameT X.K x y H Q ∨ rRepT X.K x y H Q) opMulT := by
  intro σ g s H Q x y ra rb ok rx ry nn q
  unfold opMulT at q
  split at q
  · rename_i xs k e1 e2
    obtain ⟨a, vs, rfl, h1, r1⟩ := asTup_ok ok rx e1
    have e := asInt_ok ry e2
    subst e
    split at q
    · rename_i c
      split at q
      · rename_i hk
        refine .inl ⟨a, k, vs, rfl, rfl, h1, ?_, hk.1, hk.2, kE_d q ok ?_⟩
        · simp only [Bool.or_eq_true, List.isEmpty_iff, beq_iff_eq] at c
          rcases c with c | c
          · exact .inl ((RepL.nil_iff r1).mpr c)
          · exact .inr c
        · cases ra with
          | d w =>
            cases w <;> first | cases e1
            exact rx
          | «at» _ => cases e1
          | new _ => cases e1
      · exact q.elim
    · rename_i c
      split at q
      · rename_i hk
        refine .inr ⟨a, k, vs, rfl, rfl, h1, fun z => ?_, hk.1, hk.2.1, by rw [r1.length]; exact hk.2.2, fun p hp => kE_tup q ok hp (r1.rep _)⟩
        have := (RepL.nil_iff r1).mp z
        subst this
        exact c rfl
      · exact q.elim
  · exact q.elim
theorem os_mulS : OpS X W rRepS opMulS := by
  intro σ g s H Q x y ra rb ok rx ry nn q
  unfold opMulS at q
  split at q
  · rename_i z k e1 e2
    split at q
    · rename_i h
      exact ⟨z, k, asStr_ok rx e1, asInt_ok ry e2, h.1, h.2.1, h.2.2, kE_d q ok (.str _)⟩
    · exact q.elim
  · exact q.elim
theorem os_mulL : OpS X W rRep opMulL := by
  intro σ g s H Q x y ra rb ok rx ry nn q
  unfold opMulL at q
  split at q
  · rename_i xs k e1 e2
    obtain ⟨a, vs, rfl, h1, r1⟩ := asLst_ok ok rx e1
    have e := asInt_ok ry e2
    subst e
    split at q
    · rename_i h
      exact ⟨a, k, vs, rfl, rfl, h1, h.1, h.2.1, by rw [r1.length]; exact h.2.2, fun p hp => kE_new q ok hp ⟨_, upd_same, r1.rep _⟩⟩
    · exact q.elim
  · exact q.elim
def opMul := orF opMulI (orF opMulT (orF opMulS opMulL))
variable {a b o i e : Expr} {ma mb mo mi me : M} {pos pos' apos cpos : Pos}
theorem me_mul (ha : ME X W a ma) (hb : ME X W b mb) : ME X W (.BinOp a .Mult b pos) (mBin opMul ma mb) :=
  me_bin (op_mul2.or ((op_sameT.or op_repT).or (op_repS.or op_rep))) (os_mulI.or (os_mulT.or (os_mulS.or os_mulL))) ha hb
end

/-! ### a new object comes into the shared store -/
def mAlloc (m : M) : M := fun s => (m s).bind fun r s1 => match r with
  | .new o => .ok (.d (.ref s1.gl.length)) { s1 with gl := s1.gl ++ [o] }
  | _ => .stuck
section
variable {K : PySem.W.Frag} {W : WX} {σ : L2.St} {g : G} {s : S} {H : Hp}
def G.add (g : G) (a : Addr) : G := { g with adr := fun l => if l = .gl g.ng then a else g.adr l, ng := g.ng + 1 }
theorem add_le {a : Addr} : GLe g (g.add a) := ⟨Sub.refl _, Nat.le_succ _, fun n h => if_neg fun z => by cases z; exact Nat.lt_irrefl _ h⟩
theorem Ok.add {a : Addr} {o : MObj} (ok : Ok K g s σ H) (n : g.F a = none) (np : ¬ g.P a) (nl : ¬ Live g s a) (q : ObjRep K g H a o) :
    Ok K (g.add a) { s with gl := s.gl ++ [o] } σ H := by
  have cs : ∀ l w, cellOf { s with gl := s.gl ++ [o] } l = some w → (l = .gl g.ng ∧ w = o) ∨ (l ≠ .gl g.ng ∧ cellOf s l = some w) := by
    intro l w e
    cases l with
    | sl i => exact .inr ⟨(fun z => nomatch z), e⟩
    | gl m =>
      have e' : (s.gl ++ [o])[m]? = some w := e
      by_cases h : m < s.gl.length
      · rw [List.getElem?_append_left h] at e'
        exact .inr ⟨fun z => by cases z; have := ok.ng; omega, e'⟩
      · rw [List.getElem?_append_right (by omega)] at e'
        have hm : m - s.gl.length = 0 := by
          cases hq : m - s.gl.length with
          | zero => rfl
          | succ z => rw [hq] at e'; cases e'
        rw [hm] at e'
        cases e'
        exact .inl ⟨by rw [ok.ng]; exact congrArg Loc.gl (by omega), rfl⟩
  have a0 : (g.add a).adr (.gl g.ng) = a := if_pos rfl
  have a1 : ∀ l, l ≠ .gl g.ng → (g.add a).adr l = g.adr l := fun l h => if_neg h
  have ne : ∀ l w, cellOf s l = some w → g.adr l ≠ a := fun l w h z => nl ⟨l, w, h, z⟩
  refine ⟨ok.sub, fun l w e => ?_, fun l l' w w' e e' z => ?_, fun i x e => (ok.env i x e).mono add_le (fun i => a1 _ (fun z => nomatch z)), ok.len, ?_, fun b p => ?_⟩
  · rcases cs l w e with ⟨rfl, rfl⟩ | ⟨h, e⟩
    · rw [a0]; exact ⟨n, q.mono add_le rfl⟩
    · rw [a1 l h]
      obtain ⟨f, r⟩ := ok.cell l w e
      exact ⟨f, r.mono add_le rfl⟩
  · rcases cs l w e with ⟨e1, _⟩ | ⟨h, en⟩
    · rcases cs l' w' e' with ⟨e2, _⟩ | ⟨h', en'⟩
      · exact e1.trans e2.symm
      · rw [e1, a0, a1 l' h'] at z
        exact absurd z.symm (ne l' w' en')
    · rcases cs l' w' e' with ⟨e2, _⟩ | ⟨h', en'⟩
      · rw [e2, a0, a1 l h] at z
        exact absurd z (ne l w en)
      · rw [a1 l h, a1 l' h'] at z
        exact ok.inj l l' w w' en en' z
  · show g.ng + 1 = (s.gl ++ [o]).length
    rw [List.length_append, ok.ng]; rfl
  · obtain ⟨h1, h2, h3⟩ := ok.prot b p
    refine ⟨h1, h2, fun ⟨l, w, e, z⟩ => ?_⟩
    rcases cs l w e with ⟨rfl, rfl⟩ | ⟨h, e⟩
    · rw [a0] at z
      exact np (z ▸ p)
    · rw [a1 l h] at z
      exact h3 ⟨l, w, e, z⟩
end
section
variable {X : Cx} {W : WX} {a b o i e : Expr} {ma mb mo mi me : M} {pos pos' apos cpos : Pos}
theorem me_alloc (h : ME X W e me) : ME X W e (mAlloc me) := by
  refine pe_imp h fun σ H Q ⟨g, s, ok, h⟩ => ?_
  refine ⟨g, s, ok, (PostE.bind h).mono fun r g1 s1 H1 t1 k1 o1 h1 v rv => ?_⟩
  cases r with
  | d x => exact h1.elim
  | «at» j => exact h1.elim
  | new w =>
    obtain ⟨p, rfl, n, np, nl, q⟩ := rv
    have o2 := o1.add n np nl q
    refine h1 (g1.add p) H1 ⟨add_le, rfl, fun _ _ => rfl⟩ (fun j => show (if Loc.sl j = Loc.gl g1.ng then p else g1.adr (.sl j)) = g1.adr (.sl j) from if_neg (by intro z; cases z)) o2 _ ?_
    have := Rep.ref (K := X.K) (g := g1.add p) g1.ng (Nat.lt_succ_self _)
    rw [show (g1.add p).adr (.gl g1.ng) = p from if_pos rfl] at this
    rw [← o1.ng]
    exact this

/-! ### xs.pop(i) -/
def fPopAt : List D → D → Option (D × List D) := fun xs d => match d with
  | .int i => if -(2 ^ 63) ≤ i ∧ i < 2 ^ 63 then (match seqIndex? i xs.length with
    | some k => (match xs[k]? with
      | some y => some (y, xs.eraseIdx k)
      | none => none)
    | none => none) else none
  | _ => none
theorem me_popAt (ho : ME X W o mo) (ha : ME X W a ma) (hbase : attributeBase o "pop" X.env (eval o X.env) = eval o X.env := by rfl)
    (hfew : ((backTo cpos (starEach [a] X.env)).all (fun x => !x.1) && (backToKw cpos (keywordEach [] X.env)).all (fun x => x.1.isSome)
      && decide ([a].length + ([] : List Keyword).length + (if ([] : List Keyword).isEmpty then 0 else 1) < 30)) = true := by rfl)
    (hline : (apos.endLine == cpos.line) = true := by rfl) (hs : starEach [a] X.env = (false, eval a X.env) :: starEach [] X.env := by rfl) :
    ME X W (.Call (.Attribute o "pop" apos) [a] [] cpos) (mLm1 fPopAt mo ma) := by
  have z := pe_bm PySem.F.plainAttrs_list PySem.F.slot_list_pop PySem.F.type_list_pop mt_popAt ho (pa_cons ha pa_nil hs) hbase hfew hline hs
  refine pe_imp z fun σ H Q h => ?_
  obtain ⟨g, s, ok, h⟩ := h
  refine mLm1_of (fun g l vs xs y d x ys H Q rvs ry hl e q => ?_) ok h
  clear h
  obtain ⟨i, rfl⟩ : ∃ i, d = .int i := by
    cases d <;> first | exact ⟨_, rfl⟩ | (exact absurd e (by simp [fPopAt]))
  cases ry
  have e : (if -(2 ^ 63) ≤ i ∧ i < 2 ^ 63 then (match seqIndex? i xs.length with
    | some k => (match xs[k]? with
      | some y => some (y, xs.eraseIdx k)
      | none => none)
    | none => none) else none) = some (x, ys) := e
  split at e
  · rename_i hi
    split at e
    · rename_i k ek
      split at e
      · rename_i w ew
        cases e
        obtain ⟨u, hu, ru⟩ := rvs.get ew
        exact ⟨l, vs, i, k, u, rfl, rfl, hl, hi.1, hi.2, by rw [rvs.length]; exact ek, hu, q u _ ru (rvs.eraseIdx k)⟩
      · cases e
    · cases e
  · cases e

/-! ### o[i] = e -/
def mSetIx (v o i : M) : S → Res Out := fun s => (mLeak v s).bind fun d s1 => (o s1).bind fun r s2 => match locOf r with
  | some l => (match cellOf s2 l with
    | some _ => (mLeak i s2).bind fun k s3 => (match cellOf s3 l, k with
      | some (.lst xs), .int k => (match ixN xs.length k with
        | some j => .ok .nx (setCell s3 l (.lst (xs.set j d)))
        | none => .stuck)
      | _, _ => .stuck)
    | _ => .stuck)
  | none => .stuck
theorem loc_held {K : PySem.W.Frag} {σ : L2.St} {g g' : G} {s : S} {H H' : Hp} {l : Loc} {o : MObj} (ok : Ok K g s σ H) (e : cellOf s l = some o) (t : Step g H g' H') (k : SlKeep g g') : g'.adr l = g.adr l := by
  cases l with
  | sl i => exact k i
  | gl n => exact t.le.adr n (by rw [ok.ng]; exact gl_cell e)
theorem ms_setIx (hv : ME X W e me) (ho : ME X W o mo) (hi : ME X W i mi)
    (hs : swapsWithSole [.Subscript o i pos'] e pos.line X.env = pure false := by rfl) (hw : swappedStores [.Subscript o i pos'] e X.env = pure none := by rfl)
    (h1 : (assignEach [.Subscript o i pos'] X.env).map (·.2) = [PySem.assign (.Subscript o i pos') X.env] := by rfl)
    (hg : ∀ v, PySem.assign (.Subscript o i pos') X.env v = (do
      let ov ← holding [v] (eval o X.env)
      let iv ← holding [v, ov] (eval i X.env)
      standAt pos'
      holding [v, ov, iv] (setItem ov iv v)
      release [v, ov, iv] []) := by intro _; rfl) : MS X W (.Assign [.Subscript o i pos'] e pos) (mSetIx me mo mi) := by
  have z := ps_asg hv (pg_sub ho hi set_list hg) hs hw h1
  refine ps_imp z fun D σ H h => ?_
  obtain ⟨g, s, ok, h⟩ := h
  refine tM_leak ok (k := fun d g1 s1 H1 => PostS X.K W g1 s1 H1 D ((mo s1).bind fun r s2 => match locOf r with
  | some l => (match cellOf s2 l with
    | some _ => (mLeak mi s2).bind fun k s3 => (match cellOf s3 l, k with
      | some (.lst xs), .int k => (match ixN xs.length k with
        | some j => .ok .nx (setCell s3 l (.lst (xs.set j d)))
        | none => .stuck)
      | _, _ => .stuck)
    | _ => .stuck)
  | none => .stuck)) (PostS.bind h) fun d g1 s1 H1 v t1 k1 o1 rv h1 => ?_
  refine ⟨g1, s1, o1, (PostS.bind h1).mono fun r g2 s2 H2 t2 k2 o2 h2 u ru => ?_⟩
  split at h2
  · rename_i l e1
    have hu := locOf_ok ru e1
    subst hu
    split at h2
    · rename_i w e2
      refine tM_leak o2 (PostS.bind h2) fun dk g3 s3 H3 y t3 k3 o3 ry h3 => ?_
      have el := loc_held o2 e2 t3 k3
      split at h3
      · rename_i xs k e3
        cases ry
        split at h3
        · rename_i j ej
          obtain ⟨vs, hvs, rvs⟩ := cell_lst o3 e3
          refine ⟨_, vs, k, j, rfl, rfl, by rw [← el]; exact hvs, by rw [rvs.length]; exact ej, ?_⟩
          rw [← el]
          obtain ⟨o4, t4⟩ := o3.change (o' := .lst (xs.set j d)) (ho := .lst (vs.set j v)) e3 ⟨_, upd_same, RepL.set ((rv.mono t2.le).mono t3.le) j rvs⟩
          exact h3 _ _ _ t4 o4
        · exact h3.elim
      · exact h3.elim
    · exact h2.elim
  · exact h2.elim
end
end MI
/-! # An own exception whose __init__ says super().__init__(text + str(place)), then self.f = place -/
namespace MI
open PySem PySem.Spec PyProof.Rows L2

/-- what the written part says of the class at C and of its __init__ -/
structure BbF (P : Program) (K : PySem.W.Frag) (C fI cda cc : Addr) (qual : Str) (params : Arguments) (body : List Stmt) (scope : Scope) (f : Str) : Prop where
  T : OexC K C
  iC : PySem.W.findIn K (.ref C) "__init__" = some (some (.ref fI))
  tI : PySem.W.typeIn K (.ref fI) = some (.type "function")
  fn : ∃ oc od doc pm an ct osl, K.lookup fI = some ⟨oc, od, .func (PySem.W.ksFn "__init__" qual params body scope .none .none doc pm an (.ref cda) ct cc), osl⟩
  hcd : PySem.W.codeIn K (.ref cda) qual = true
  code : ∃ ccl cdd vs ccs file tf, K.lookup cda = some ⟨ccl, cdd, .fields vs, ccs⟩ ∧ vs[2]? = some (.str file tf) ∧ ((P.main.file : Str) == file) = true
  cell : ∃ cl cld csl, K.lookup cc = some ⟨cl, cld, .cell (some (.ref C)), csl⟩
  cls : ∃ cd, PySem.W.clsIn K C = some cd
  sub : PySem.W.mroIn K C (.ref C) = some true
  sup : PySem.W.ks_superIn K C C "__init__" = some (some (.builtin "ValueError.__init__"))
  ve : PySem.W.subIn K (.ref C) (.type "ValueError") = some true
  any : PySem.W.nsIn K cStatics "thirdparty.any" = some none
  exi : ∃ bmB, ExcBaseFacts "ValueError" "ValueError.__new__" "ValueError.__init__" bmB ∧ PySem.W.excInitIn K C bmB "ValueError.__new__" = true
  fld : PySem.W.findIn K (.ref C) f = some none
/-- the def's own places -/
structure BbP where
  p0 : Pos
  p1 : Pos
  p2 : Pos
  p3 : Pos
  p4 : Pos
  p5 : Pos
  p6 : Pos
  p7 : Pos
  p8 : Pos
  p9 : Pos
  q0 : Pos
  q1 : Pos
  q2 : Pos
  q3 : Pos
  msg : Str
  j : Nat
def BbP.arg (b : BbP) : Expr := .BinOp (.Constant (.str b.msg) b.j b.p3) .Add (.Call (.Name "str" b.p4) [.Name "place" b.p5] [] b.p6) b.p7
def BbP.call (b : BbP) : Expr := .Call (.Attribute (.Call (.Name "super" b.p0) [] [] b.p1) "__init__" b.p2) [b.arg] [] b.p8
def BbP.set (b : BbP) (f : Str) : Stmt := .Assign [.Attribute (.Name "self" b.q0) f b.q1] (.Name "place" b.q2) b.q3
def BbP.body (b : BbP) (f : Str) : List Stmt := [.Expr b.call b.p9, b.set f]
/-- the def's own shape -/
structure BbS (P : Program) (params : Arguments) (scope : Scope) (b : BbP) (f : Str) (qual : Str) : Prop where
  msg : b.msg.length ≤ 1000
  ev : ∀ env : Env, env.scope = scope → ∃ pl, eval b.call env = (do
      let ov ← attributeBase (.Call (.Name "super" b.p0) [] [] b.p1) "__init__" env (eval (.Call (.Name "super" b.p0) [] [] b.p1) env)
      standAt b.p2.atName
      let (f, first) ← holding [ov] (getMethod ov "__init__" pl)
      callWith b.p8 f first (backTo b.p8 (starEach [b.arg] env)) [])
  st : ∀ env : Env, env.scope = scope → interactive env = false ∧ swapsWith b.call none b.p9.line env = pure false ∧ swapsWith (.Name "place" b.q2) (some (.Attribute (.Name "self" b.q0) f b.q1)) b.q3.line env = pure false
  sp : ∀ env : Env, env.scope = scope → starEach [b.arg] env = [(false, eval b.arg env)] ∧ starEach [.Name "place" b.p5] env = [(false, eval (.Name "place" b.p5) env)]
  par : ∃ ar, (params.posonlyargs ++ params.args).head? = some ar ∧ ar.arg = "self"
  bind : ∀ (doc pm : Value) (an : Option Addr) (cdv ct : Value) (cc : Addr) (u v : Value), bindArgs (PySem.W.ksFn "__init__" qual params (b.body f) scope .none .none doc pm an cdv ct cc) ⟨[u, v], []⟩ = pure [(("self" : Str), u), (("place" : Str), v)]
  kind : scope.kind = .function
  co : scope.isCoroutine = false
  gen : scope.isGenerator = false
  self : scope.names.lookup ("self" : Str) = some .local
  place : scope.names.lookup ("place" : Str) = some .local
  sup : scope.names.lookup ("super" : Str) = some .globalImplicit
  str : scope.names.lookup ("str" : Str) = some .globalImplicit
  cl : scope.names.lookup ("__class__" : Str) = some .free
  nocell : ∀ x ∈ scope.names, x.2 ≠ .cell
  top : (P.main.scope.names.lookup ("super" : Str)).isSome = false
section
open PySem.W PySem.Calls
variable {P : Program} {w : World} {K : Frag} {C fI cda cc : Addr} {qual f : Str} {params : Arguments} {b : BbP} {scope : Scope} {A : Around} {hp h1 : Heap} {g : Array GenState} {d : Drawn} {t : Nat} {os : OsState} {mg : Str → Option Value} {R : Result → Shared → Prop} {e t1 : Addr} {i : Int} {tk : Tok}
theorem log_small {n : Nat} (h : n ≤ 1000000) : n.log2 < 1920 := by
  by_cases z : n = 0
  · subst z; decide
  · rw [Nat.log2_lt z]
    exact Nat.lt_of_le_of_lt h (by decide +kernel)
theorem bb_run (B : BbF P K C fI cda cc qual params (b.body f) scope f) (S : BbS P params scope b f qual) (X : K.In hp) (hg : hp.Ns mainGlobals mg) (hb : ∃ mb, hp.Ns builtinsNs mb ∧ ∀ x : Str, x ≠ "__name__" → mb x = bootBuiltins x) (nl : hp.NoLimit)
    (hsup : mg "super" = none) (hstr : mg "str" = none) (hroom : A.depth < recursionLimit) (hi : i.natAbs ≤ 1000000) (kk : ∀ b o, hp.get? b = some o → h1.get? b = some o) (hsz : hp.objs.size ≤ e) (he : h1.get? e = some (excObj C t1 none .none))
    (hR : ∀ h2 tk' t' dx, (∀ b o, hp.get? b = some o → h2.get? b = some o) → hp.objs.size ≤ dx → dx ≠ e → h2.get? e = some ({ cls := .ref C, dict := some dx, data := .fields #[.ref t', .none, .none, .none, .bool false, .none] } : Obj) →
      h2.Ns1 dx (fun y => if y = f then some (.int i tk) else none) → R (.ok (.ret .none)) ⟨h2, g, d, tk', os⟩) :
    codeAny (model P w) A (.call (.ref fI) ⟨[.ref e, .int i tk], []⟩) R ⟨h1, g, d, t, os⟩ := by
  obtain ⟨oc, od, doc, pm, an, ct, osl, lk⟩ := B.fn
  obtain ⟨ccl, cdd, vs, ccs, file, tf, lc, lvs, lfile⟩ := B.code
  obtain ⟨cl, cld, csl, lcell⟩ := B.cell
  obtain ⟨cd, lcls⟩ := B.cls
  obtain ⟨bmB, FB, exi⟩ := B.exi
  obtain ⟨ar, har, hself⟩ := S.par
  have X1 : K.In h1 := X.keeps kk
  refine ks_codeAny_call_defAt (fd := ksFn "__init__" qual params (b.body f) scope .none .none doc pm an (.ref cda) ct cc) (body := b.body f) (binds := [("self", .ref e), ("place", .int i tk)]) hroom (kk _ _ (X _ _ lk)) rfl (nl.keeps kk) (codeRec_of X1 B.hcd) rfl
    (.of_eq (S.bind _ _ _ _ _ _ _ _)) S.nocell ?_ (fun h0 hns hk => ?_) S.co S.gen S.kind
  · intro y hy
    rcases List.mem_cons.mp hy with rfl | hy
    · exact S.self
    · rcases List.mem_cons.mp hy with rfl | hy
      · exact S.place
      · cases hy
  have hel : e < h1.objs.size := Heap.lt_size he
  have F0 : Fr hp h1.objs.size h0 (fun x => [(("self" : Str), Value.ref e), ("place", .int i tk)].reverse.lookup x) := ⟨hns, fun b o z => hk b o (kk b o z), Nat.le_of_lt (Nat.lt_of_le_of_lt hsz hel)⟩
  have hpe : hp.get? e = none := by
    cases z : hp.get? e with
    | none => rfl
    | some o => exact absurd (Nat.lt_of_lt_of_le (Heap.lt_size z) hsz) (Nat.lt_irrefl _)
  have N0 : News hp h1.objs.size h0 [(e, excObj C t1 none .none)] := fun p hpm => by
    rcases List.mem_cons.mp hpm with rfl | hpm
    · exact ⟨hk _ _ he, Nat.ne_of_lt hel, hpe⟩
    · cases hpm
  have hL : h1.objs.size ≠ e := fun z => Nat.ne_of_lt hel z.symm
  obtain ⟨mb, hbn, hbl⟩ := hb
  have K0 : K.In h0 := X.keeps F0.keep
  obtain ⟨oD, hD1, hD2⟩ : ∃ oD, h0.get? C = some oD ∧ oD.data = .cls cd := by
    unfold clsIn at lcls
    split at lcls
    · rename_i ho
      cases lcls
      exact ⟨_, K0 _ _ ho, rfl⟩
    · cases lcls
  obtain ⟨m, hm, mself, mplace⟩ : ∃ m : Str → Option Value, (fun x : Str => [(("self" : Str), Value.ref e), (("place" : Str), Value.int i tk)].reverse.lookup x) = m ∧ m "self" = some (.ref e) ∧ m "place" = some (.int i tk) := ⟨_, rfl, rfl, rfl⟩
  rw [hm] at F0 hns
  obtain ⟨env, henv⟩ : ∃ env, callEnv (ksFn "__init__" qual params (b.body f) scope .none .none doc pm an (.ref cda) ct cc) h1.objs.size fI = env := ⟨_, rfl⟩
  have esc : env.scope = scope := by rw [← henv]; rfl
  have elo : env.locals = h1.objs.size := by rw [← henv]; rfl
  have egl : env.globals = mainGlobals := by rw [← henv]; rfl
  have ebl : env.builtins = builtinsNs := by rw [← henv]; rfl
  have ecl : env.cells.lookup ("__class__" : Str) = some cc := by rw [← henv]; rfl
  have efu : env.func = some fI := by rw [← henv]; rfl
  have eco : env.code = .ref cda := by rw [← henv]; rfl
  show _root_.PySem.wpAt _ _ _ (execs [.Expr b.call b.p9, b.set f] (callEnv (ksFn "__init__" qual params (b.body f) scope .none .none doc pm an (.ref cda) ct cc) h1.objs.size fI)) _ _ _
  rw [henv]
  obtain ⟨pl, ev⟩ := S.ev env esc
  obtain ⟨st1, st2, st3⟩ := S.st env esc
  obtain ⟨sp1, sp2⟩ := S.sp env esc
  have kd : ∀ {x : Str} {k : NameKind}, scope.names.lookup x = some k → env.kindOf x = some k := fun {x k} z => by
    show env.scope.names.lookup x = some k
    rw [esc]; exact z
  have ekd : env.scope.kind = .function := by rw [esc]; exact S.kind
  refine ks_wpAt_execs_cons (ks_wpAt_Expr_any (ks_wpAt_MethodCall (ks_wpAt_super_base (kd S.sup) (kd S.cl) (by decide) efu (K0 _ _ lk) rfl har eco (K0 _ _ lc) rfl lvs lfile S.top ?_) ev) st1 st2)
  refine ks_loadName_global ekd (kd S.sup) (loadGlobal_builtin (by rw [egl]; exact hg.keeps F0.keep) hsup (by rw [ebl]; exact hbn.keeps F0.keep) ((hbl _ (by decide)).trans rfl) ⟨rfl, ?_⟩)
  refine wpAny_loadName_free ekd (kd S.cl) ecl ⟨_, K0 _ _ lcell, rfl⟩ ?_
  refine wpAny_loadName_local ekd (by rw [hself]; exact kd S.self) (by rw [elo]; exact F0.ns) (by rw [hself]; exact mself) ?_
  refine ks_wpAny_isType_cls hD1 hD2 ⟨rfl, ?_⟩
  have he0 : h0.get? e = some (excObj C t1 none .none) := (N0 _ List.mem_cons_self).1
  refine ks_wpAny_call_super hD1 hD2 he0 rfl (fun c z => by cases z) (looks_mroIn K0 B.sub) (fun h2 eso k2 => ?_)
  obtain ⟨F2, N2, lt2⟩ := ks_newsPush (s := ⟨h0, g, d, t + 2, os⟩) F0 N0 rfl eso k2
  refine kxs_method kxs_ValueError F2 X N2 List.mem_cons_self (InstAt.of_exc0 N2 (List.mem_cons_of_mem _ List.mem_cons_self)) B.any B.sup B.ve (by decide) (fun q h3 F3 N3 lt3 => ?_)
  -- the text
  have K3 : K.In h3 := X.keeps F3.keep
  refine kxs_callWith1 (i := "ValueError.__init__") (x := e) N3 List.mem_cons_self ?_ (by rw [sp1]; rfl) rfl
  rw [sp1]
  have ns3 : h3.Ns env.locals m := by rw [elo]; exact F3.ns
  have gl3 : h3.Ns env.globals mg := by rw [egl]; exact hg.keeps F3.keep
  have bl3 : h3.Ns env.builtins mb := by rw [ebl]; exact hbn.keeps F3.keep
  show wpAny _ _ (spliced [(false, _)]) _ _ _
  refine Calls.spliced_cons (wpAny_BinOp (Calls.Constant_str (wpAny_Call_Name_kw (Calls.Name_function_global ekd (kd S.str) (loadGlobal_builtin gl3 hstr bl3 ((hbl _ (by decide)).trans rfl) ?_) (by decide)))))
  refine PyProof.Rows.callWith_type1 (T := "str") ?_ (by rw [sp2]; rfl) rfl
  rw [sp2]
  refine Calls.spliced_cons (wpAny_Name (wpAny_loadName_local ekd (kd S.place) ns3 mplace (Calls.spliced_nil ?_)) (by decide))
  refine PySem.P.str_of_int (log_small hi) ?_
  refine PyProof.Rows.add_str (fun t' tk' => Calls.spliced_nil ⟨kxs_at N3 List.mem_cons_self, ?_⟩) ?_
  · refine kxs_call F3 X N3 FB exi List.mem_cons_self (.tail ?_ (.tail ?_ (.head (fun _ z => nomatch z)))) (by show 1 ≤ sizeLine; rw [sizeLine_eq]; decide) (fun t4 h4 F4 N4 lt4 => ?_)
    · exact Nat.ne_of_gt (lt3 _ (List.mem_cons_of_mem _ List.mem_cons_self))
    · exact Nat.ne_of_gt (lt2 _ List.mem_cons_self)
    · -- the field
      have K4 : K.In h4 := X.keeps F4.keep
      have ns4 : h4.Ns env.locals m := by rw [elo]; exact F4.ns
      have e4 : h4.get? e = some (excObj C t4 none .none) := (N4 (e, excObj C t4 none .none) (List.mem_cons_of_mem _ (List.mem_cons_of_mem _ (List.mem_cons_of_mem _ List.mem_cons_self)))).1
      obtain ⟨nm, qn, nN, bs, bm, sn, sub, ab, col, dd, k0, k1, k2', k3, k5, hC, hbm⟩ := B.T.cls
      have hcl : clsIn K C = some { name := nm, bases := bs, mro := .ref C :: bm, ns := nN, qualname := qn, hasDict := true, slotNames := sn, subclasses := sub, abstract := ab, collection := col, hasDel := false } := by
        unfold clsIn
        rw [hC] <;> rfl
      show _root_.PySem.wpAt _ _ _ (execs [b.set f] env) _ _ _
      refine ks_wpAt_execs_cons (ks_wpAt_Assign_Attr (wpAt_of_wpAny (wpAny_Name (wpAny_loadName_local ekd (kd S.place) ns4 mplace (wpAny_Name (wpAny_loadName_local ekd (kd S.self) ns4 mself ?_) (by decide))) (by decide))) st3)
      refine set_plain (ox := excObj C t4 none .none) (od := none) K4 ⟨e4, rfl, rfl, trivial⟩ B.T.sa ?_
      refine PySem.HandSPX.exc_osa K4 e4 hcl (show PySem.HandSPX.refsVE (.ref C :: bm) = true from hbm) rfl B.fld (fun h5 tk5 dx k5' dn dne hx hn => ?_)
      refine wpAt_of_wpAny (wpAny_execs_nil (hR h5 tk5 t4 dx (fun c o z => k5' c o (fun y => by rw [y, hpe] at z; cases z) (F4.keep c o z)) ?_ dne hx hn))
      exact Nat.le_trans (Nat.le_of_lt (Nat.lt_of_le_of_lt hsz (Heap.lt_size e4))) dn
  · have hmsg := S.msg
    have h1 := PyProof.Rows.len_str_of_int i
    rw [sizeLine_eq]
    show b.msg.length + (Str.ofString (toString i)).length ≤ _
    omega
end
end MI
/-! # raise, try -/
namespace MI
open PySem PySem.Spec PyProof.Rows L2

section
variable {X : Cx} {e : Expr} {te : TE} {x f : Str} {p pos : Pos} {C fI cda cc : Addr} {qual : Str} {params : Arguments} {b : BbP} {scope : Scope}
/-- C(e), e a place -/
theorem pmk_bb (B : BbF X.prog X.K C fI cda cc qual params (b.body f) scope f) (S : BbS X.prog params scope b f qual) (hsup : X.mg "super" = none) (hstr : X.mg "str" = none) (hr : Room 3 X.A) (hg : Gl X x) (hm : X.mg x = some (.ref C)) (ha : PE X e te)
    (hdb : (x == ("__debug__" : Str)) = false := by decide) (he : starEach [e] X.env = (false, eval e X.env) :: starEach [] X.env := by rfl) :
    PMk X (.Call (.Name x p) [e] [] pos) (fun σ H Q => tCons te tNil σ H fun vs H1 => ∃ i : Int, vs = [.int i] ∧ i.natAbs ≤ 1000000 ∧ ∀ dx, H1 dx = none → Q (.ref C) (some dx) (upd H1 dx (.xd [(f, .int i)]))) := by
  intro pins s σ H Q I h
  obtain ⟨nm, q, nN, bs, bm, sn, sub, ab, col, dd, k0, k1, k2, k3, k5, hC, hbm⟩ := B.T.cls
  refine wpAny_Call_Name_kw (ld_glob I hg hm ?_ hdb)
  refine PySem.W.callWith_K (h₀ := X.base) I.ok.mod.kin B.T.kC (thn ((pa_cons ha pa_nil he).run pos pins s σ H (fun vs H1 => ∃ i : Int, vs = [.int i] ∧ i.natAbs ≤ 1000000 ∧ ∀ dx, H1 dx = none → Q (.ref C) (some dx) (upd H1 dx (.xd [(f, .int i)]))) I h) fun us s1 ⟨vs, H1, I1, r1, i, ev, hi, q1⟩ => ⟨I1.kIn, ?_⟩) he (by rfl)
  · subst ev
    obtain ⟨u, rfl, ru⟩ := vals1 r1
    obtain ⟨tk, rfl⟩ := ru
    show wpAny _ _ (call (.ref C) [.int i tk]) _ _ _
    obtain ⟨hp, g, dr, tt, os⟩ := s1
    have hget : ((hp.push (PySem.W.kdv_tup [.int i tk])).push (PySem.HandSPX.excO C hp.objs.size)).get? (hp.objs.size + 1) = some (PySem.HandSPX.excO C hp.objs.size) := by heap_get
    have kk : ∀ c o, hp.get? c = some o → ((hp.push (PySem.W.kdv_tup [.int i tk])).push (PySem.HandSPX.excO C hp.objs.size)).get? c = some o := fun c o z => Heap.get?_push_of_some _ (Heap.get?_push_of_some _ z)
    refine wpAny_call (PySem.HandSPX.call_own F.excBase_ValueError (fun Y => PySem.HandSPX.refsVE_contains Y bm hbm) (I1.kIn _ _ hC) (PySem.W.looks_findIn I1.kIn B.iC) (fun self => PySem.W.bind_fn I1.kIn self B.tI) (by show 1 ≤ sizeLine; rw [sizeLine_eq]; decide) ?_)
    refine bb_run B S I1.kIn (I1.mod.glob.keeps I1.bk) ?_ I1.nolimit hsup hstr (Room.depth (hr.make C [.int i tk] [])) hi kk (Nat.le_succ _) hget (fun h2 tk' t' dx k2' dn dne hx hn => ?_)
    · obtain ⟨mb, z1, z2⟩ := I1.mod.blt
      exact ⟨mb, z1.keeps I1.bk, z2⟩
    · refine ⟨rfl, ?_⟩
      obtain ⟨G, g1, g2⟩ := restrict h2 fun c => decide (c ≠ hp.objs.size + 1)
      have gk : ∀ c, c ≠ hp.objs.size + 1 → G.get? c = h2.get? c := fun c hc => g1 c (decide_eq_true hc)
      have ge : G.get? (hp.objs.size + 1) = none := g2 _ (by simp)
      have lt : ∀ c o, hp.get? c = some o → c ≠ hp.objs.size + 1 := fun c o z => Nat.ne_of_lt (Nat.lt_succ_of_lt (Heap.lt_size z))
      have kG : ∀ c o, hp.get? c = some o → G.get? c = some o := fun c o z => (gk c (lt c o z)).trans (k2' c o z)
      have J := I1.laid (t' := tk') (a := dx) (o := .xd [(f, .int i)]) (h' := G) kG dn ?_
      · refine ⟨hp.objs.size + 1, _, _, ⟨G, g, dr, tk', os⟩, _, .ref C, some dx, rfl, J, fun c o z => ?_, ge, hx, ⟨rfl, rfl⟩, rfl, rfl, ?_, rfl, I1.bare, raises_own B.T.exC B.T.tyC, q1 dx (I1.hok.fresh dn)⟩
        · by_cases hc : c = hp.objs.size + 1
          · rw [hc, ge] at z; cases z
          · exact (gk c hc).symm.trans z
        · rw [upd_ne (Ne.symm dne)]
          exact I1.hok.fresh (Nat.le_succ _)
      · refine ⟨_, hn.at fun o z => (gk dx dne).trans z, fun y => ?_⟩
        show RelO (List.lookup y [(f, V.int i)]) (if y = f then some (.int i tk) else none)
        rw [lookup_put]
        by_cases hy : y = f
        · rw [if_pos hy, if_pos hy]; exact ⟨tk, rfl⟩
        · rw [if_neg hy, if_neg hy]; exact True.intro
end

/-! ### what the module says of such a class -/
/-- x stands for an own exception class that keeps one int, under f -/
def XcM (P : Program) (K : PySem.W.Frag) (mg : Str → Option Value) (x f : Str) : Prop :=
  ∃ fI cda cc qual params b scope, BbF P K (He.ga K x) fI cda cc qual params (BbP.body b f) scope f ∧ BbS P params scope b f qual ∧ mg x = some (.ref (He.ga K x)) ∧ mg "super" = none ∧ mg "str" = none
def mRaise (x f : Str) (m : M) : S → Res Out := fun s => (mLeak m s).bind fun d s1 => match d with
  | .int i => if i.natAbs ≤ 1000000 then .exc x (.tup [.str f, .int i]) s1 else .stuck
  | _ => .stuck
section
variable {X : Cx} {W : WX} {e : Expr} {me : M} {x f : Str} {p pos pos' : Pos}
theorem ms_raise (B : XcM X.prog X.K X.mg x f) (hr : Room 3 X.A) (hc : X.calm = true) (tk : Takes X W) (hg : Gl X x) (ha : ME X W e me)
    (hdb : (x == ("__debug__" : Str)) = false := by decide) (he : starEach [e] X.env = (false, eval e X.env) :: starEach [] X.env := by rfl) :
    MS X W (.Raise (some (.Call (.Name x p) [e] [] pos')) none pos) (mRaise x f me) := by
  obtain ⟨fI, cda, cc, qual, params, b, scope, BF, BS, hm, hsup, hstr⟩ := B
  have z := ps_raise (pos := pos) hc tk (pmk_bb (p := p) (pos := pos') BF BS hsup hstr hr hg hm ha hdb he)
  refine ps_imp z fun D σ H h => ?_
  obtain ⟨g, s, ok, h⟩ := h
  unfold mRaise at h
  refine tM_leak ok (k := fun d g1 s1 H1 => PostS X.K W g1 s1 H1 D (match d with
  | .int i => if i.natAbs ≤ 1000000 then .exc x (.tup [.str f, .int i]) s1 else .stuck
  | _ => .stuck)) (PostS.bind h) fun d g1 s1 H1 v t1 k1 o1 rv h1 => ?_
  cases d <;> first | exact h1.elim | skip
  rename_i i
  cases rv
  simp only at h1
  split at h1
  · rename_i hi
    refine ⟨i, rfl, hi, fun dx hx => ?_⟩
    exact h1 _ _ _ g1 _ (Step.grow o1 hx) (o1.grow hx) ⟨rfl, .inr ⟨dx, f, .int i, .int i, rfl, upd_same, rfl, .int i⟩⟩
  · exact h1.elim
end

/-! ### try -/
/-- try: body / except c as n: y = n.f   (tb: which class is one of c) -/
def mTryF (tb : Str → Option Bool) (i j : Nat) (f : Str) (b : S → Res Out) : S → Res Out := fun s => match b s with
  | .exc c p s1 => (match tb c with
    | some true => (match p with
      | .tup [.str f', q] => if f' = f ∧ i ≠ j ∧ i < s1.env.length then (match assign j (.d q) { s1 with env := s1.env.set i .none } with
        | some s2 => .ok .nx s2
        | none => .stuck) else .stuck
      | _ => .stuck)
    | some false => .exc c p s1
    | none => .stuck)
  | r => r
section
variable {K : PySem.W.Frag} {σ : L2.St} {g : G} {s : S} {H : Hp}
theorem Ok.setNone {i : Nat} {x : Option V} (ok : Ok K g s σ H) : Ok K g { s with env := s.env.set i .none } (σ.set i x) H := by
  have cs : ∀ l w, cellOf { s with env := s.env.set i .none } l = some w → cellOf s l = some w := by
    intro l w h
    cases l with
    | gl n => exact h
    | sl k =>
      by_cases hi : i < s.env.length
      · rcases cellOf_set hi h with ⟨_, z⟩ | ⟨_, z⟩
        · cases z
        · exact z
      · have e : s.env.set i Slot.none = s.env := List.set_eq_of_length_le (by omega)
        rw [e] at h; exact h
  refine ⟨ok.sub, fun l w e => ok.cell l w (cs l w e), fun l l' w w' e e' z => ok.inj l l' w w' (cs l w e) (cs l' w' e') z, fun k y e => ?_, by rw [List.length_set, List.length_set]; exact ok.len, ok.ng, fun a p => ?_⟩
  · by_cases z : k = i
    · subst z
      have e' : (s.env.set k Slot.none)[k]? = some y := e
      by_cases hk : k < s.env.length
      · rw [List.getElem?_set_self hk] at e'
        cases e'
        trivial
      · rw [List.getElem?_eq_none (by rw [List.length_set]; omega)] at e'
        cases e'
    · have e' : (s.env.set i Slot.none)[k]? = some y := e
      rw [List.getElem?_set_ne (Ne.symm z)] at e'
      have q := ok.env k y e'
      cases y with
      | none => trivial
      | val d =>
        obtain ⟨v, h1, h2⟩ := q
        exact ⟨v, (List.getElem?_set_ne (Ne.symm z)).trans h1, h2⟩
      | own o => exact (List.getElem?_set_ne (Ne.symm z)).trans q
  · obtain ⟨h1, h2, h3⟩ := ok.prot a p
    exact ⟨h1, h2, fun ⟨l, w, e, z⟩ => h3 ⟨l, w, cs l w e, z⟩⟩
end
section
variable {X : Cx} {W : WX} {body : List Stmt} {mb : S → Res Out} {x n y f : Str} {i j : Nat} {np py pn pa apos pos pos' : Pos} {tb : Str → Option Bool}
theorem ms_tryF (hm : X.mg x = some (.ref (He.ga X.K x))) (hxf : XfC X.K (He.ga X.K x)) (hno : PySem.W.findIn X.K (.ref (He.ga X.K x)) f = some none)
    (htb : ∀ c b, tb c = some b → PySem.W.exmOne X.K (.ref (He.ga X.K c)) (.ref (He.ga X.K x)) = some b ∧ (b = true → c = x)) (hN : X.N.Nodup) (tk : Takes X W) (hg : Gl X x)
    (hb : ∀ (W : WX) (pn : List (Addr × Obj)) (xe : Value → Shared → Prop), Takes (X.tr pn xe) W → PassesOwn (model X.prog X.w) X.A X.env xe → MSs (X.tr pn xe) W body mb)
    (hs : X.stack = X.env :: X.outer := by rfl) (hf : X.env.frame = some X.env.locals := by rfl) (hi : X.N[i]? = some n := by rfl) (hj : X.N[j]? = some y := by rfl) (hln : X.env.kindOf n = some .local := by rfl) (hly : X.env.scope.names.lookup y = some .local := by rfl)
    (hdb : (x == ("__debug__" : Str)) = false := by decide) (hd1 : (n == ("__debug__" : Str)) = false := by decide) (hd2 : (n == ("__classdict__" : Str)) = false := by decide)
    (hsw : swapsWith (.Attribute (.Name n pn) f pa) (some (.Name y py)) apos.line X.env = pure false := by rfl) (hba : attributeBase (.Name n pn) f X.env (eval (.Name n pn) X.env) = eval (.Name n pn) X.env := by rfl) :
    MS X W (.Try body [.ExceptHandler (some (.Name x np)) (some n) [.Assign [.Name y py] (.Attribute (.Name n pn) f pa) apos] pos'] [] [] pos) (mTryF tb i j f mb) := by
  have z := ps_try_as (X := X) (x := x) (n := n) (c := .ref (He.ga X.K x)) (i := i) (np := np) (pos := pos) (pos' := pos') (Wout := W) (tb := fun W => tMS X.K W mb)
    (ts := fun a cls d => fun D σ H => tXf a cls d (He.ga X.K x) f (tVar i) σ H fun v H1 => D.nx (σ.set j (some v)) H1) hs hf hN hi hln ⟨hg, hdb, .inl hm⟩ tk hb
    (fun a oe cls d pn' hz hfs => pss_one (ps_set (X := X.suite a ((a, oe) :: pn')) (i := j) hN hj (.inl hly) (pe_xf (X := X) hxf hno hz hfs (pe_var (X := X.suite a ((a, oe) :: pn')) (i := i) hi (.inl hln) hd1 hd2) hba) hsw (.inr hly)))
  refine ps_imp z fun D σ H h => ?_
  obtain ⟨g, s, ok, h⟩ := h
  refine ⟨g, s, ok, ?_⟩
  unfold mTryF at h
  cases e : mb s with
  | ok a s' => simp only [e] at h; cases a <;> exact h
  | stuck => simp only [e] at h; exact h.elim
  | exc c p s1 =>
    simp only [e] at h
    intro σ' cls d g' H' t o' rep
    obtain ⟨rfl, rep⟩ := rep
    cases eb : tb c with
    | none => simp only [eb] at h; exact h.elim
    | some b =>
      obtain ⟨hx, hc⟩ := htb c b eb
      refine ⟨b, hx, fun hb1 a ha => ?_, fun hb0 => ?_⟩
      · subst hb1
        have ec := hc rfl
        subst ec
        simp only [eb] at h
        split at h
        · rename_i fl q
          split at h
          · rename_i hfij
            obtain ⟨rfl, hij, hlt⟩ := hfij
            split at h
            · rename_i s2 es
              rcases rep with ⟨_, rep⟩ | ⟨dx, f2, v, q2, ed, eH, rep, rq⟩
              · cases rep
              · cases rep
                refine ⟨.ref a, ?_, rfl, rfl, dx, _, v, ed, eH, ?_, ?_⟩
                · exact List.getElem?_set_self (by rw [← o'.len]; exact hlt)
                · simp [List.lookup]
                · show D.nx (((σ'.set i (some (.ref a))).set j (some v)).set i none) H'
                  have el : ((σ'.set i (some (.ref a))).set j (some v)).set i none = (σ'.set i none).set j (some v) := by
                    rw [List.set_comm _ _ (Ne.symm hij), List.set_set, List.set_comm _ _ hij]
                  rw [el]
                  obtain ⟨g2, t2, o2⟩ := assign_ok (o'.setNone (i := i) (x := none)) (show RepRV X.K g' _ H' v (.d q) from rq) es
                  exact h _ _ _ (t.trans t2) o2
            · exact h.elim
          · exact h.elim
        · exact h.elim
      · subst hb0
        simp only [eb] at h
        exact h _ _ _ _ _ t o' ⟨rfl, rep⟩
end
/-- .. and one that a clause names -/
structure XcT (P : Program) (K : PySem.W.Frag) (mg : Str → Option Value) (x f : Str) : Prop where
  xm : XcM P K mg x f
  xf : XfC K (He.ga K x)
  ex : PySem.W.exmOne K (.ref (He.ga K x)) (.ref (He.ga K x)) = some true
def tbOne (x : Str) : Str → Option Bool := fun c => if c = x then some true else none
def mTryX (x : Str) (i j : Nat) (f : Str) (b : S → Res Out) : S → Res Out := mTryF (tbOne x) i j f b
section
variable {X : Cx} {W : WX} {body : List Stmt} {mb : S → Res Out} {x n y f : Str} {i j : Nat} {np py pn pa apos pos pos' : Pos}
theorem ms_tryX (B : XcT X.prog X.K X.mg x f) (hN : X.N.Nodup) (tk : Takes X W) (hg : Gl X x)
    (hb : ∀ (W : WX) (pn : List (Addr × Obj)) (xe : Value → Shared → Prop), Takes (X.tr pn xe) W → PassesOwn (model X.prog X.w) X.A X.env xe → MSs (X.tr pn xe) W body mb)
    (hs : X.stack = X.env :: X.outer := by rfl) (hf : X.env.frame = some X.env.locals := by rfl) (hi : X.N[i]? = some n := by rfl) (hj : X.N[j]? = some y := by rfl) (hln : X.env.kindOf n = some .local := by rfl) (hly : X.env.scope.names.lookup y = some .local := by rfl)
    (hdb : (x == ("__debug__" : Str)) = false := by decide) (hd1 : (n == ("__debug__" : Str)) = false := by decide) (hd2 : (n == ("__classdict__" : Str)) = false := by decide)
    (hsw : swapsWith (.Attribute (.Name n pn) f pa) (some (.Name y py)) apos.line X.env = pure false := by rfl) (hba : attributeBase (.Name n pn) f X.env (eval (.Name n pn) X.env) = eval (.Name n pn) X.env := by rfl) :
    MS X W (.Try body [.ExceptHandler (some (.Name x np)) (some n) [.Assign [.Name y py] (.Attribute (.Name n pn) f pa) apos] pos'] [] [] pos) (mTryX x i j f mb) := by
  obtain ⟨fI, cda, cc, qual, params, b, scope, BF, BS, hm, hsup, hstr⟩ := B.xm
  refine ms_tryF hm B.xf BF.fld (fun c b h => ?_) hN tk hg hb hs hf hi hj hln hly hdb hd1 hd2 hsw hba
  unfold tbOne at h
  split at h
  · rename_i e
    cases h
    subst e
    exact ⟨B.ex, fun _ => rfl⟩
  · cases h
end
end MI
/-! # The head's facts: defs, names, own exception classes -/
namespace MI
open PySem PySem.Spec PyProof.Rows L2 PySem.W

/-- an own exception class with a written __init__: its name, the field, the def -/
structure InD where
  x : Str
  f : Str
  qual : Str
  params : Arguments
  b : BbP
  scope : Scope
abbrev InV : Type := Option (Str × Str × Arguments × FuncBody × Scope × Addr × List Str × Addr)
def InD.val (d : InD) : InV := some (("__init__" : Str), d.qual, d.params, .stmts (d.b.body d.f), d.scope, mainGlobals, [("__class__" : Str)], builtinsNs)
/-- the class object itself -/
def oexB (K : Frag) (C : Addr) : Bool := match K.lookup C with
  | some ⟨.type "type", _, .cls cd, sl⟩ => (match cd.mro, sl.toList with
    | .ref C' :: bm, [_, _, _, _, some (.builtin n), _] => decide (C' = C) && (decide (n = "ValueError.__new__") && (!cd.hasDel && (cd.hasDict && HandSPX.refsVE bm)))
    | _, _ => false)
  | _ => false
theorem oexB_ok {K : Frag} {C : Addr} (h : oexB K C = true) : ∃ nm q N bs bm sn sub ab col dd k0 k1 k2 k3 k5, K.lookup C = some (excClassObj nm q C N bs bm true sn sub ab col dd k0 k1 k2 k3 k5 "ValueError.__new__") ∧ HandSPX.refsVE bm = true := by
  unfold oexB at h
  split at h
  · rename_i dd cd sl ho
    split at h
    · rename_i C' bm k0 k1 k2 k3 n k5 e1 e2
      obtain ⟨a1, h⟩ := Bool.and_eq_true_iff.mp h
      obtain ⟨a2, h⟩ := Bool.and_eq_true_iff.mp h
      obtain ⟨a3, h⟩ := Bool.and_eq_true_iff.mp h
      obtain ⟨a4, a5⟩ := Bool.and_eq_true_iff.mp h
      have b1 := of_decide_eq_true a1
      have b2 := of_decide_eq_true a2
      subst b1 b2
      obtain ⟨nm, bs, mro, ns, qn, hd, sn, sub, ab, col, dl⟩ := cd
      simp only at e1 a3 a4
      subst e1 a4
      have b3 : dl = false := by simpa using a3
      subst b3
      have e3 : sl = #[k0, k1, k2, k3, some (.builtin "ValueError.__new__"), k5] := by
        obtain ⟨l⟩ := sl
        exact congrArg Array.mk e2
      subst e3
      exact ⟨nm, qn, ns, bs, bm, sn, sub, ab, col, dd, k0, k1, k2, k3, k5, ho, a5⟩
    · cases h
  · cases h
def inFn (K : Frag) (d : InD) : Addr := He.ma K (He.ga K d.x) "__init__"
def InD.obs (K : Frag) (d : InD) : InV := match K.lookup (inFn K d) with
  | some ⟨_, _, .func fd, _⟩ => some (fd.name, fd.qualname, fd.params, fd.body, fd.scope, fd.globals, fd.closure.map (·.1), fd.builtins)
  | _ => none
/-- the function object's other parts -/
def inFnB (K : Frag) (C fI : Addr) (qual file : Str) : Bool := match K.lookup fI with
  | some ⟨_, _, .func fd, _⟩ => (match fd.defaults, fd.kwdefaults, fd.closure, fd.code with
    | .none, .none, [(_, cc)], .ref cda => codeIn K (.ref cda) qual && ((match K.lookup cda with
        | some ⟨_, _, .fields vs, _⟩ => (match (vs[2]? : Option Value) with
          | some (Value.str fl _) => (file == fl)
          | _ => false)
        | _ => false) && (match K.lookup cc with
        | some ⟨_, _, .cell (some (.ref D)), _⟩ => decide (D = C)
        | _ => false))
    | _, _, _, _ => false)
  | _ => false
def veB : List Value := [.type "ValueError", .type "Exception", .type "BaseException", .type "object"]
def InD.ok (K : Frag) (file : Str) (d : InD) : Bool :=
  let C := He.ga K d.x
  oexB K C && (He.eqO (findIn K (.ref C) "__setattr__") (some (some (.builtin "object.__setattr__"))) && (decide (subIn K (.ref C) (.type "BaseException") = some true) && (decide (typeIn K (.ref C) = some (.type "type")) && (keepIn K (.ref C) &&
  (He.eqO (findIn K (.ref C) "__init__") (some (some (.ref (inFn K d)))) && (decide (typeIn K (.ref (inFn K d)) = some (.type "function")) && (inFnB K C (inFn K d) d.qual file && ((clsIn K C).isSome && (decide (mroIn K C (.ref C) = some true) &&
  (decide (ks_superIn K C C "__init__" = some (some (.builtin "ValueError.__init__"))) && (decide (subIn K (.ref C) (.type "ValueError") = some true) && (He.eqO (nsIn K cStatics "thirdparty.any") (some none) && (excInitIn K C veB "ValueError.__new__" &&
  (He.eqO (findIn K (.ref C) d.f) (some none) && (xfB K C && (decide (exmOne K (.ref C) (.ref C) = some true) && (He.eqO (nsIn K mainGlobals d.x) (some (some (.ref C))) && (He.eqO (nsIn K mainGlobals "super") (some none) && He.eqO (nsIn K mainGlobals "str") (some none)))))))))))))))))))
theorem InD.xct {P : Program} {K : Frag} {h : Heap} {mg : Str → Option Value} {d : InD} (X : K.In h) (G : h.Ns mainGlobals mg) (ok : d.ok K P.main.file = true) (e : d.obs K = d.val) (S : BbS P d.params d.scope d.b d.f d.qual) : XcT P K mg d.x d.f := by
  unfold InD.ok at ok
  simp only [Bool.and_eq_true, decide_eq_true_eq] at ok
  obtain ⟨c1, c2, c3, c4, c5, c6, c7, c8, c9, c10, c11, c12, c13, c14, c15, c16, c17, c18, c19, c20⟩ := ok
  have c2 := He.eqO_ok c2
  have c6 := He.eqO_ok c6
  have c13 := He.eqO_ok c13
  have c15 := He.eqO_ok c15
  have c18 := He.eqO_ok c18
  have c19 := He.eqO_ok c19
  have c20 := He.eqO_ok c20
  unfold InD.obs at e
  unfold inFnB at c8
  cases q : K.lookup (inFn K d) with
  | none => rw [q] at c8; cases c8
  | some o =>
    obtain ⟨oc, od, dt, osl⟩ := o
    rw [q] at c8 e
    cases dt with
    | func fd =>
      obtain ⟨n1, n2, n3, n4, n5, n6, n7, n8, n9, n10, n11, n12, n13, n14, n15⟩ := fd
      simp only at c8 e
      unfold InD.val at e
      simp only [Option.some.injEq, Prod.mk.injEq] at e
      obtain ⟨h1, h2, h3, h4, h5, h6, h7, h8⟩ := e
      subst h1 h2 h3 h4 h5 h6 h8
      split at c8
      · rename_i nm cc cda
        have hn : nm = "__class__" := by
          have z := List.head_eq_of_cons_eq h7
          exact z
        subst hn
        obtain ⟨d1, c8⟩ := Bool.and_eq_true_iff.mp c8
        obtain ⟨d2, d3⟩ := Bool.and_eq_true_iff.mp c8
        have code : ∃ ccl cdd vs ccs file tf, K.lookup cda = some ⟨ccl, cdd, .fields vs, ccs⟩ ∧ vs[2]? = some (.str file tf) ∧ ((P.main.file : Str) == file) = true := by
          split at d2
          · rename_i ho
            split at d2
            · rename_i hv
              exact ⟨_, _, _, _, _, _, ho, hv, d2⟩
            · cases d2
          · cases d2
        have cell : ∃ cl cld csl, K.lookup cc = some ⟨cl, cld, .cell (some (.ref (He.ga K d.x))), csl⟩ := by
          split at d3
          · rename_i D' _ ho
            have z := of_decide_eq_true d3
            subst z
            exact ⟨_, _, _, ho⟩
          · cases d3
        have BF : BbF P K (He.ga K d.x) (inFn K d) cda cc d.qual d.params (d.b.body d.f) d.scope d.f :=
          ⟨⟨oexB_ok c1, c2, c3, c4, c5⟩, c6, c7, ⟨_, _, _, _, _, _, _, q⟩, d1, code, cell, Option.isSome_iff_exists.mp c9, c10, c11, c12, c13, ⟨veB, F.excBase_ValueError, c14⟩, c15⟩
        exact ⟨⟨_, _, _, _, _, _, _, BF, S, mg_of X G c18, mg_none_of X G c19, mg_none_of X G c20⟩, xfB_ok c16, c17⟩
      · cases c8
    | _ => cases c8
/-! ### the Hook -/
abbrev AlX : Type := Bool × List He.FnW × List InV
structure HdX where
  n : Nat
  file : Str
  fa : List He.Fa
  fn : List He.DefD
  ini : List InD
  tup : List (Str × List He.Dv)
def HdX.ok (d : HdX) (K : Frag) : Bool := d.fa.all (fun f => f.ok K) && (d.fn.all (fun f => f.ok K) && (d.ini.all (fun f => f.ok K d.file) && d.tup.all fun p => He.eqO (nsIn K mainGlobals p.1) (some (some (.ref (He.ga K p.1)))) && He.tupB K p.1 p.2))
def HdX.obs (d : HdX) (K : Frag) : AlX := (d.ok K, d.fn.map (fun f => He.fnW K f.at_), d.ini.map fun f => f.obs K)
def HdX.val (d : HdX) : AlX := (true, d.fn.map He.DefD.val, d.ini.map InD.val)
def HdX.says (d : HdX) (K : Frag) : Prop := d.obs K = d.val
def asX (g : Addr → Option Obj) : Nat → List Addr
  | 0 => [mainGlobals, cStatics]
  | n + 1 => He.growD g (asX g n)
def HdX.obsG (d : HdX) (g : Addr → Option Obj) : AlX := d.obs (He.frG g (asX g d.n))
def HdX.hook (d : HdX) : Hook where
  α := AlX
  obs := fun s => d.obsG s.heap.get?
  val := fun _ => d.val
  says := fun _ h => ∃ K : Frag, K.In h ∧ d.says K
  of := fun _ _ e => ⟨_, He.frG_in, e⟩
  keeps := fun _ _ _ ⟨K, hK, c⟩ k => ⟨K, Frag.In.keeps hK k, c⟩
theorem HdX.obs_eq {d : HdX} {g : Addr → Option Obj} {s : Shared} (h : ∀ a, g a = s.heap.get? a) : d.obsG g = d.hook.obs s := by
  have e : g = s.heap.get? := funext h
  rw [e] <;> rfl
def HdX.ob (d : HdX) (s : SharedT) : AlX := d.obsG (HandSHeadRun.getT s)
theorem HdX.ob_eq (d : HdX) (s : SharedT) : d.ob s = d.hook.obs s.abs := HdX.obs_eq (HandSHeadRun.getT_eq s)
section
variable {d : HdX} {P : Program} {K : Frag} {h : Heap} {mg : Str → Option Value}
theorem HdX.says.ok (c : d.says K) : d.ok K = true := congrArg (fun z : AlX => z.1) c
theorem HdX.says.fact (c : d.says K) (i : Nat) {f : He.Fa} (e : d.fa[i]? = some f := by rfl) : f.ok K = true :=
  List.all_eq_true.mp (Bool.and_eq_true_iff.mp c.ok).1 f (List.mem_of_getElem? e)
theorem HdX.says.def_ (c : d.says K) (X : K.In h) (G : h.Ns mainGlobals mg) (i j : Nat) {x : Str} {params : Arguments} {body : List Stmt} {scope : Scope} (e : d.fn[i]? = some ⟨(x, none), x, x, params, body, scope, [], []⟩ := by rfl) (e2 : d.fa[j]? = some (.glo x) := by rfl) :
    DefM K mg x params body scope := by
  have c1 := (Bool.and_eq_true_iff.mp (Bool.and_eq_true_iff.mp c.ok).2).1
  have q : d.fn.map (fun f => He.fnW K f.at_) = d.fn.map He.DefD.val := congrArg (fun z : AlX => z.2.1) c
  have q2 : (d.fn.map fun f => He.fnW K f.at_)[i]? = (d.fn.map He.DefD.val)[i]? := by rw [q]
  rw [List.getElem?_map, List.getElem?_map, e] at q2
  obtain ⟨fd, F⟩ := He.DefD.funD (Option.some.inj q2) (List.all_eq_true.mp c1 _ (List.mem_of_getElem? e))
  exact ⟨_, fd, F, He.glo_ok X G (c.fact j e2)⟩
theorem HdX.says.free (c : d.says K) (X : K.In h) (G : h.Ns mainGlobals mg) (j : Nat) {x : Str} (e : d.fa[j]? = some (.free x) := by rfl) : mg x = none := He.free_ok X G (c.fact j e)
theorem HdX.says.gint (c : d.says K) (X : K.In h) (G : h.Ns mainGlobals mg) (j : Nat) {x : Str} {i : Int} (e : d.fa[j]? = some (.int x i) := by rfl) : GInt mg x i := He.int_ok X G (c.fact j e)
theorem HdX.says.gstr (c : d.says K) (X : K.In h) (G : h.Ns mainGlobals mg) (j : Nat) {x z : Str} (e : d.fa[j]? = some (.str x z) := by rfl) : GStr mg x z := He.str_ok X G (c.fact j e)
theorem HdX.says.exc (c : d.says K) (hf : d.file = P.main.file) (X : K.In h) (G : h.Ns mainGlobals mg) (i : Nat) {x f qual : Str} {params : Arguments} {b : BbP} {scope : Scope} (S : BbS P params scope b f qual) (e : d.ini[i]? = some ⟨x, f, qual, params, b, scope⟩ := by rfl) : XcT P K mg x f := by
  have c1 := (Bool.and_eq_true_iff.mp (Bool.and_eq_true_iff.mp (Bool.and_eq_true_iff.mp c.ok).2).2).1
  have q : d.ini.map (fun f => f.obs K) = d.ini.map InD.val := congrArg (fun z : AlX => z.2.2) c
  have q2 : (d.ini.map fun f => f.obs K)[i]? = (d.ini.map InD.val)[i]? := by rw [q]
  rw [List.getElem?_map, List.getElem?_map, e] at q2
  have o := List.all_eq_true.mp c1 _ (List.mem_of_getElem? e)
  rw [hf] at o
  exact InD.xct (d := ⟨x, f, qual, params, b, scope⟩) X G o (Option.some.inj q2) S
theorem HdX.says.gtup (c : d.says K) (X : K.In h) (G : h.Ns mainGlobals mg) (i : Nat) {x : Str} {ds : List He.Dv} (e : d.tup[i]? = some (x, ds) := by rfl) : GTup K mg x (ds.map (He.Dv.v K)) := by
  have c1 := (Bool.and_eq_true_iff.mp (Bool.and_eq_true_iff.mp (Bool.and_eq_true_iff.mp c.ok).2).2).2
  have o := List.all_eq_true.mp c1 _ (List.mem_of_getElem? e)
  obtain ⟨o1, o2⟩ := Bool.and_eq_true_iff.mp o
  exact ⟨_, mg_of X G (He.eqO_ok o1), fun H => He.tupB_ok o2 H⟩
end
/-- the places of such an __init__, off its text -/
def bbOf : List Stmt → BbP
  | [.Expr (.Call (.Attribute (.Call (.Name _ p0) _ _ p1) _ p2) [.BinOp (.Constant (.str msg) j p3) _ (.Call (.Name _ p4) [.Name _ p5] _ p6) p7] _ p8) p9, .Assign [.Attribute (.Name _ q0) _ q1] (.Name _ q2) q3] =>
    ⟨p0, p1, p2, p3, p4, p5, p6, p7, p8, p9, q0, q1, q2, q3, msg, j⟩
  | _ => ⟨⟨0, 0, 0, 0⟩, ⟨0, 0, 0, 0⟩, ⟨0, 0, 0, 0⟩, ⟨0, 0, 0, 0⟩, ⟨0, 0, 0, 0⟩, ⟨0, 0, 0, 0⟩, ⟨0, 0, 0, 0⟩, ⟨0, 0, 0, 0⟩, ⟨0, 0, 0, 0⟩, ⟨0, 0, 0, 0⟩, ⟨0, 0, 0, 0⟩, ⟨0, 0, 0, 0⟩, ⟨0, 0, 0, 0⟩, ⟨0, 0, 0, 0⟩, "", 0⟩
/-! ### the end: the law at a script -/
def CXw (P : Program) : CXT := fun outer H s E e s' => ∃ w : World, L2.CX P w outer H s E e s'
theorem law_out {P : Program} (H : Hp) (s : Shared) (e : Value) (s' : Shared) : CXw P [] H s (fun _ _ _ => False) e s' → False := fun ⟨_, _, _, _, _, _, _, _, _, _, _, _, _, z⟩ => z
theorem fnOk_cx {P : Program} {w : World} {K : Frag} {mg : Str → Option Value} {base : Heap} {k : Nat} {f : Addr} {fd : FuncData} {ps : List Str} {sp : Sp} (F : FnOk P w K mg base (L2.CX P w) k f fd ps sp) : FnOk P w K mg base (CXw P) k f fd ps sp :=
  ⟨F.len, fun A outer s H args us vs Q E hr e0 hb r q => codeAny_mono (F.run A outer s H args us vs Q E hr e0 hb r q) fun r s' z => by
    cases r with
    | error e => exact ⟨w, z⟩
    | ok fl => cases fl <;> exact z⟩
theorem law_end {P : Program} {w : World} {K : Frag} {mg : Str → Option Value} {fa : Addr} {h : Heap} {k : Nat} {fm : Fm} (KX : K.In h) (hmg : mg ("law" : Str) = some (.ref fa)) (F : ∀ base : Heap, FnM P w K mg base k "law" ["script"] fm)
    (plain : ∀ ns : List Int, ns.length ≤ 63 → ∃ gl, fm [.scr (ns.map D.int)] [] = .ok (.bl true) gl) :
    ∃ (K : Frag) (fd : FuncData) (sp : Sp), K.In h ∧ (∀ (s : Shared) (u : Value), BindsTo s fd ⟨[u], []⟩ [(("script" : Str), u)]) ∧
        (∀ (H : Hp) (a : Addr) (ns : List Int), ns.length ≤ 63 → Only H → SqL K H a (ns.map V.int) → sp [.ref a] H (fun v _ => v = .bl true) fun _ _ _ => False) ∧
        ∀ base : Heap, K.In base → base.Ns mainGlobals mg → FnOk P w K mg base (CXw P) k fa fd ["script"] sp := by
  obtain ⟨f0, fd, _, hm0, _, _, ⟨oc, od, osl, lk⟩, hb⟩ := (F h).ex
  have ef : f0 = fa := by rw [hm0] at hmg; cases hmg; rfl
  subst ef
  refine ⟨K, fd, spM K fm, KX, fun s u => hb s [u] rfl, fun H a ns hl _ hS => ?_, fun base _ _ => ?_⟩
  · have rl : ∀ ns : List Int, RepL K ⟨H, fun _ => False, fun _ => 0, 0⟩ (ns.map V.int) (ns.map D.int) := fun ns => by
      induction ns with
      | nil => exact .nil
      | cons i r ih => exact .cons (.int i) ih
    refine ⟨⟨H, fun _ => False, fun _ => 0, 0⟩, [], [.scr (ns.map D.int)], ⟨Sub.refl _, fun l o e => ?_, fun l l' o o' e => ?_, fun i x e => (nomatch e), rfl, rfl, fun a p => p.elim⟩, .one (.scr hS (rl ns)), ?_⟩
    · cases l with
      | sl i => exact nomatch (show (none : Option MObj) = some o from e)
      | gl n => exact nomatch (show (none : Option MObj) = some o from e)
    · cases l with
      | sl i => exact nomatch (show (none : Option MObj) = some o from e)
      | gl n => exact nomatch (show (none : Option MObj) = some o from e)
    · obtain ⟨gl, e⟩ := plain ns hl
      rw [e]
      intro v g' H' _ _ r
      cases r
      rfl
  · obtain ⟨f1, fd1, F1, hm1, _, _, ⟨oc1, od1, osl1, lk1⟩, _⟩ := (F base).ex
    have ef : f1 = f0 := by rw [hm0] at hm1; cases hm1; rfl
    subst ef
    rw [lk] at lk1
    cases lk1
    exact fnOk_cx F1
end MI
/-! # More methods of lists -/
namespace MI
open PySem PySem.Spec PyProof.Rows L2
/-- xs.extend(ys), ys a list -/
def fExtend : List D → D → Option (D × List D) := fun xs d => match d with
  | .lst ys => if xs.length + ys.length ≤ sizeLine then some (.non, xs ++ ys) else none
  | _ => none
section
variable {X : Cx} {W : WX} {o a : Expr} {mo ma : M} {apos cpos : Pos}
/-- (as mLm1_of; the heap of the argument is seen) -/
theorem mLm1_ofF {f : List D → D → Option (D × List D)} {r : V → List V → Hp → VK → Prop}
    (hf : ∀ (g : G) (l : Addr) (vs : List V) (xs : List D) (y : V) (d : D) (x : D) (ys : List D) (H : Hp) (Q : VK), Sub g.F H → RepL X.K g vs xs → Rep X.K g y d → H l = some (.lst vs) → f xs d = some (x, ys) →
      (∀ v ws, Rep X.K g v x → RepL X.K g ws ys → Q v (upd H l (.lst ws))) → r (.ref l) [y] H Q)
    {σ : L2.St} {H : Hp} {Q : VK} {g : G} {s : S} (ok : Ok X.K g s σ H) (h : PostE X.K W σ g s H (kE X.K Q) (mLm1 f mo ma s)) : tBM X.K "list" r (tM X.K W mo) (tCons (tM X.K W ma) tNil) σ H Q := by
  refine ⟨g, s, ok, (PostE.bind h).mono fun rv g1 s1 H1 t1 k1 o1 h1 v rr => ?_⟩
  split at h1
  · rename_i l e1
    have hv := locOf_ok rr e1
    subst hv
    split at h1
    · rename_i zs e2
      obtain ⟨us, hu, _⟩ := cell_lst o1 e2
      refine ⟨.inl ⟨rfl, us, .of hu⟩, ?_⟩
      refine tM_leak o1 (PostE.bind h1) fun d g2 s2 H2 y t2 k2 o2 ry h2 => ?_
      have el := loc_held o1 e2 t2 k2
      split at h2
      · rename_i xs e3
        split at h2
        · rename_i x ys e4
          obtain ⟨vs, hvs, rvs⟩ := cell_lst o2 e3
          show r (.ref (g1.adr l)) [y] H2 Q
          rw [← el]
          exact hf g2 _ vs xs y d x ys H2 Q o2.sub rvs ry hvs e4 fun v ws rv rw' => kE_change (o' := .lst ys) o2 e3 ⟨ws, upd_same, rw'⟩ rv h2
        · exact h2.elim
      · exact h2.elim
    · exact h1.elim
  · exact h1.elim
theorem me_extend (ho : ME X W o mo) (ha : ME X W a ma) (hbase : attributeBase o "extend" X.env (eval o X.env) = eval o X.env := by rfl)
    (hfew : ((backTo cpos (starEach [a] X.env)).all (fun x => !x.1) && (backToKw cpos (keywordEach [] X.env)).all (fun x => x.1.isSome)
      && decide ([a].length + ([] : List Keyword).length + (if ([] : List Keyword).isEmpty then 0 else 1) < 30)) = true := by rfl)
    (hline : (apos.endLine == cpos.line) = true := by rfl) (hs : starEach [a] X.env = (false, eval a X.env) :: starEach [] X.env := by rfl) :
    ME X W (.Call (.Attribute o "extend" apos) [a] [] cpos) (mLm1 fExtend mo ma) := by
  have z := pe_bm PySem.F.plainAttrs_list PySem.F.slot_list_extend PySem.F.type_list_extend mt_extend ho (pa_cons ha pa_nil hs) hbase hfew hline hs
  refine pe_imp z fun σ H Q h => ?_
  obtain ⟨g, s, ok, h⟩ := h
  refine mLm1_ofF (fun g l vs xs y d x ys H Q sb rvs ry hl e q => ?_) ok h
  clear h
  obtain ⟨zd, rfl⟩ : ∃ zd, d = .lst zd := by
    cases d <;> first | exact ⟨_, rfl⟩ | exact absurd e (by simp [fExtend])
  cases ry
  rename_i b zs hb rz
  unfold fExtend at e
  simp only at e
  split at e
  · rename_i hz
    cases e
    exact ⟨l, b, vs, zs, rfl, rfl, hl, sb _ _ hb, by rw [rvs.length, rz.length]; exact hz, q _ _ .non (rvs.append rz)⟩
  · cases e
end
/-! ### enumerate of a list -/
def enumD (lo : Nat) : List D → List D
  | [] => []
  | d :: ds => .tup [.int lo, d] :: enumD (lo + 1) ds
theorem enumD_len : ∀ (lo : Nat) (ds : List D), (enumD lo ds).length = ds.length
  | _, [] => rfl
  | lo, d :: ds => by rw [enumD, List.length_cons, List.length_cons, enumD_len]
theorem enumD_get : ∀ (lo : Nat) (ds : List D) (i : Nat) (x : D), (enumD lo ds)[i]? = some x → ∃ d, ds[i]? = some d ∧ x = .tup [.int ((lo + i : Nat) : Int), d]
  | _, [], _, _, h => by cases h
  | lo, d :: ds, 0, x, h => ⟨d, rfl, by simpa [enumD] using h.symm⟩
  | lo, d :: ds, i + 1, x, h => by
    obtain ⟨y, h1, h2⟩ := enumD_get (lo + 1) ds i x (by simpa [enumD] using h)
    refine ⟨y, by simpa using h1, ?_⟩
    rw [h2, show lo + 1 + i = lo + (i + 1) by omega]
def iEnumM (m : S → Res (List D)) : S → Res (List D) := fun s => (m s).bind fun ds s1 => match ds with
  | [.lst xs] => .ok (enumD 0 xs) s1
  | [.scr xs] => .ok (enumD 0 xs) s1
  | _ => .stuck
theorem walk_enum {K : PySem.W.Frag} {g : G} {a : Addr} {vs : List V} {ds : List D} (h : SqL K g.F a vs) (r : RepL K g vs ds) : Walk K (Ite K a) (enumD 0 ds) g := by
  intro g' s' σ' H' l ok
  have hq : SqL K H' a vs := sqL_mono (l.F.trans ok.sub) h
  refine ⟨⟨vs, hq, by rw [r.length, enumD_len]; exact Nat.le_refl _⟩, fun i d e => ?_⟩
  obtain ⟨y, hy, rfl⟩ := enumD_get 0 ds i d e
  obtain ⟨v, hv, rv⟩ := r.get hy
  refine ⟨⟨vs, v, hq, hv⟩, fun x H'' ⟨T, z, ex, hT, eH, e2⟩ => ?_⟩
  subst ex eH
  have e3 := e2 vs hq
  rw [hv] at e3
  cases e3
  have k1 := ok.grow (o := .tup [.int (i : Nat), v]) hT
  have k2 := k1.frz (o := .tup [.int (i : Nat), v]) upd_same (ok.fnone hT) (ok.pnone hT) (ok.lnone hT)
  refine ⟨g'.frz T (.tup [.int (i : Nat), v]), (Step.grow ok hT).trans (Step.frz (ok.fnone hT)), SlKeep.refl _, k2, ?_⟩
  rw [Nat.zero_add]
  exact .tup (.inl (.inl upd_same)) (.cons (.int _) (.cons ((rv.mono l).mono (frz_le (ok.fnone hT))) .nil))
section
variable {X : Cx} {W : WX} {e : Expr} {m : S → Res (List D)} {p pos tpos : Pos} {elts : List Expr} {kk : Nat}
theorem mi_enum (ha : MA X W [e] m) (hg : Gl X "enumerate") (hm : X.mg "enumerate" = none) (hs : starEach [e] X.env = [(false, eval e X.env)] := by rfl) : MIt X W (.Tuple elts kk tpos) (.Call (.Name "enumerate" p) [e] [] pos) (iEnumM m) := by
  refine pi_imp (pi_enum hg hm ha hs) fun σ H R h => ?_
  obtain ⟨g, s, ok, h⟩ := h
  refine ⟨g, s, ok, (PostE.bind h).mono fun ds g1 s1 H1 t1 k1 o1 h1 vs rs => ?_⟩
  split at h1
  · cases rs with
    | cons r1 rs =>
      cases rs
      cases r1 with
      | lst hq r => exact ⟨_, _, rfl, .of (o1.sub _ _ hq), PostE.done h1 o1 _ (walk_enum (.of hq) r)⟩
  · cases rs with
    | cons r1 rs =>
      cases rs
      cases r1 with
      | scr hq r => exact ⟨_, _, rfl, sqL_mono o1.sub hq, PostE.done h1 o1 _ (walk_enum hq r)⟩
  · exact h1.elim
end
/-! ### a text's signs -/
def signs (x : Str) : List D := x.cps.toList.map fun c => .str ⟨#[c]⟩
def iStrM (m : M) : S → Res (List D) := fun s => (mLeak m s).bind fun d s1 => match d with
  | .str x => .ok (signs x) s1
  | _ => .stuck
theorem walk_str {K : PySem.W.Frag} {g : G} {x : Str} : Walk K (Its x) (signs x) g := by
  intro g' s' σ' H' l ok
  refine ⟨by show x.cps.size ≤ (signs x).length; simp [signs], fun i d e => ?_⟩
  unfold signs at e
  rw [List.getElem?_map] at e
  obtain ⟨c, hc, rfl⟩ := Option.map_eq_some_iff.mp e
  have hc' : x.cps[i]? = some c := by rw [← Array.getElem?_toList]; exact hc
  refine ⟨(Array.getElem?_eq_some_iff.mp hc').1, fun y H'' ⟨e1, c', h', ey⟩ => ?_⟩
  subst e1 ey
  rw [hc'] at h'
  cases h'
  exact ⟨g', Step.refl _ _, SlKeep.refl _, ok, .str _⟩
theorem mi_str {X : Cx} {W : WX} {tg e : Expr} {me : M} (he : ME X W e me) : MIt X W tg e (iStrM me) := by
  refine pi_imp (pi_str he) fun σ H R h => ?_
  obtain ⟨g, s, ok, h⟩ := h
  refine tM_leak ok (PostE.bind h) fun d g1 s1 H1 v t1 k1 o1 rv h1 => ?_
  split at h1
  · cases rv
    exact ⟨_, rfl, PostE.done h1 o1 _ walk_str⟩
  · exact h1.elim
end MI
namespace MI
open PySem PySem.Spec PyProof.Rows L2
/-! ### a text in a text -/
def inS (i j : Str) : Bool := !(Builtin.Str.occurrences j i 0 j.length 1).isEmpty
def opInS : S → RV → RV → Res RV := fS fun i j => inS i j
section
variable {X : Cx} {W : WX} {a b : Expr} {ma mb : M} {pos : Pos}
theorem os_inS : OpS X W (fun x y H Q => ∃ i j, x = .str i ∧ y = .str j ∧ Q (.bl (inS i j)) H) opInS := fS_ok
theorem me_inS (ha : ME X W a ma) (hb : ME X W b mb) (hm : behindInMarks .In b = false) : ME X W (.Compare a [.In] [b] pos) (mBin opInS ma mb) := me_cmp op_in_str os_inS ha hb hm
theorem mt_inS (ha : ME X W a ma) (hb : ME X W b mb) (hm : behindInMarks .In b = false) : MT X W (.Compare a [.In] [b] pos) (mBl (mBin opInS ma mb)) := mt_cmp op_in_str os_inS ha hb hm
/-- .. a single sign -/
def opInC (neg : Bool) : S → RV → RV → Res RV := fun s a b => match asStr a, asStr b with
  | some x, some z => (match x.cps.toList with
    | [c] => .ok (.d (.bl (decide (c ∈ z.cps.toList) != neg))) s
    | _ => .stuck)
  | _, _ => .stuck
theorem one_sign {x : Str} {c : Nat} (h : x.cps.toList = [c]) : x = ⟨#[c]⟩ := by
  obtain ⟨⟨l⟩⟩ := x
  simp only at h
  subst h
  rfl
theorem os_inC : OpS X W (fun x y H Q => ∃ (c : Nat) (z : Str), x = .str ⟨#[c]⟩ ∧ y = .str z ∧ Q (.bl (decide (c ∈ z.cps.toList))) H) (opInC false) := by
  intro σ g s H Q x y ra rb ok rx ry nn q
  unfold opInC at q
  split at q
  · rename_i i j e1 e2
    split at q
    · rename_i c hc
      refine ⟨c, j, by rw [asStr_ok rx e1, one_sign hc], asStr_ok ry e2, ?_⟩
      have z := kE_d q ok (.bl _)
      simpa using z
    · exact q.elim
  · exact q.elim
theorem me_inC (ha : ME X W a ma) (hb : ME X W b mb) (hm : behindInMarks .In b = false) : ME X W (.Compare a [.In] [b] pos) (mBin (opInC false) ma mb) := me_cmp op_in_sign os_inC ha hb hm
theorem mt_inC (ha : ME X W a ma) (hb : ME X W b mb) (hm : behindInMarks .In b = false) : MT X W (.Compare a [.In] [b] pos) (mBl (mBin (opInC false) ma mb)) := mt_cmp op_in_sign os_inC ha hb hm
end
end MI
/-! # Methods of lists and texts, x += e -/
namespace MI
open PySem PySem.Spec PyProof.Rows L2

/-! ### xs.extend(a list or a tuple) -/
theorem extend_tuple_any (l : Addr) (items : Array Value) (n : Nat) (b : Addr) (items2 : Array Value) (n2 : Nat) (dd : Option Addr) (sl : Array (Option Value)) (hs0 : ¬(!items.isEmpty && Builtin.List.listTooLong (items.size + items2.size)) = true) (hs1 : items.size ≤ sizeLine) (hs2 : items.size + items2.size ≤ sizeLine + 1) :
    Meets (Builtin.«list.extend» ⟨[.ref l, .ref b], []⟩) (fun _ R s => s.heap.get? l = some { cls := .type "list", dict := none, data := .seq items n, slots := #[] } ∧ s.heap.get? b = some { cls := .type "tuple", dict := dd, data := .seq items2 n2, slots := sl } ∧ R (.ok (.ret Value.none)) { s with heap := s.heap.update l (Obj.mapSeq fun x => x ++ items2), toks := s.toks }) :=
  .of_wp fun prog w A R s h => by
    obtain ⟨hp, g, d, tk, os⟩ := s; obtain ⟨hl, hb, h⟩ := h; have f1 := AutoSeq1.idx_int; have f2 := AutoSeq1.sub_tuple_tuple; have f3 := AutoSeq1.sub_list_list; have f4 := AutoSeq1.sub_tuple_list; have f5 := AutoSeq1.sub_list_tuple
    have hz' : (items ++ items2).size ≤ sizeLine + 1 := by rw [Array.size_append]; exact hs2
    wp_walk using (wpAny_updateSeq hl rfl (hz := hs1) (_hz' := hz')), wpAny_loadPart' hl, wpAny_loadPart' hb; exact ⟨_, rfl, h⟩
def rExtendT (K : PySem.W.Frag) : V → List V → Hp → VK → Prop := fun x vs H Q => ∃ l b xs zs, x = .ref l ∧ vs = [.ref b] ∧ H l = some (.lst xs) ∧ SqT K H b zs ∧ xs.length + zs.length ≤ sizeLine ∧ Q .non (upd H l (.lst (xs ++ zs)))
theorem mt_extendA {X : Cx} : MtM X "list.extend" (fun x vs H Q => rExtend x vs H Q ∨ rExtendT X.K x vs H Q) := by
  intro pins s σ H x vs v us Q I rx rv h
  rcases h with h | h
  · exact mt_extend pins s σ H x vs v us Q I rx rv h
  obtain ⟨l, b, xs, zs, rfl, rfl, hH, hB, hz, q⟩ := h
  cases rx
  obtain ⟨u, rfl, ru⟩ := rv.one
  cases ru
  obtain ⟨z, its, n, r, hl, e⟩ := I.lstM hH
  obtain ⟨its2, r2, ⟨⟨cls, dd, data, sl⟩, ho, hc, n2, hd⟩, hl2⟩ := I.tuple hB
  simp only at hc hd
  subst hc hd
  have z1 := r.length
  have z2 := r2.length
  have hsz : its.toArray.size + its2.toArray.size ≤ sizeLine := by rw [List.size_toArray, List.size_toArray]; omega
  have hlong : ¬ (!its.toArray.isEmpty && Builtin.List.listTooLong (its.toArray.size + its2.toArray.size)) = true := by
    rw [notLongL hsz, Bool.and_false]
    exact Bool.false_ne_true
  refine call_meets F.slot_list_extend ⟨_, e, rfl⟩ F.entry_list_extend (F.args_list_extend_2 _ _)
    (extend_tuple_any l its.toArray n b its2.toArray n2 dd sl hlong (by rw [List.size_toArray]; omega) (by omega)) ⟨e, ho, ?_⟩
  refine ⟨.non, _, I.lset (its' := its ++ its2) hH e (by simp) (r.append r2) ?_, rfl, q⟩
  rw [List.length_append]
  omega
def fExtendA : List D → D → Option (D × List D) := fun xs d => match d with
  | .lst ys => if xs.length + ys.length ≤ sizeLine then some (.non, xs ++ ys) else none
  | .tup ys => if xs.length + ys.length ≤ sizeLine then some (.non, xs ++ ys) else none
  | _ => none
section
variable {X : Cx} {W : WX} {o a : Expr} {mo ma : M} {apos cpos : Pos}
theorem me_extendA (ho : ME X W o mo) (ha : ME X W a ma) (hbase : attributeBase o "extend" X.env (eval o X.env) = eval o X.env := by rfl)
    (hfew : ((backTo cpos (starEach [a] X.env)).all (fun x => !x.1) && (backToKw cpos (keywordEach [] X.env)).all (fun x => x.1.isSome)
      && decide ([a].length + ([] : List Keyword).length + (if ([] : List Keyword).isEmpty then 0 else 1) < 30)) = true := by rfl)
    (hline : (apos.endLine == cpos.line) = true := by rfl) (hs : starEach [a] X.env = (false, eval a X.env) :: starEach [] X.env := by rfl) :
    ME X W (.Call (.Attribute o "extend" apos) [a] [] cpos) (mLm1 fExtendA mo ma) := by
  have z := pe_bm PySem.F.plainAttrs_list PySem.F.slot_list_extend PySem.F.type_list_extend mt_extendA ho (pa_cons ha pa_nil hs) hbase hfew hline hs
  refine pe_imp z fun σ H Q h => ?_
  obtain ⟨g, s, ok, h⟩ := h
  refine mLm1_ofF (fun g l vs xs y d x ys H Q sb rvs ry hl e q => ?_) ok h
  clear h
  unfold fExtendA at e
  split at e
  · cases ry
    rename_i zs b us hb rz
    split at e
    · rename_i hz
      cases e
      exact .inl ⟨l, b, vs, us, rfl, rfl, hl, sb _ _ hb, by rw [rvs.length, rz.length]; exact hz, q _ _ .non (rvs.append rz)⟩
    · cases e
  · cases ry
    rename_i zs b us hb rz
    split at e
    · rename_i hz
      cases e
      exact .inr ⟨l, b, vs, us, rfl, rfl, hl, sqT_mono sb hb, by rw [rvs.length, rz.length]; exact hz, q _ _ .non (rvs.append rz)⟩
    · cases e
  · cases e
end

/-! ### xs.pop() -/
def mLm0 (f : List D → Option (D × List D)) (o : M) : M := fun s => (o s).bind fun r s1 => match locOf r with
  | some l => (match cellOf s1 l with
    | some (.lst xs) => (match f xs with
      | some (x, ys) => .ok (.d x) (setCell s1 l (.lst ys))
      | none => .stuck)
    | _ => .stuck)
  | none => .stuck
def fPop : List D → Option (D × List D) := fun xs => match xs[xs.length - 1]? with
  | some y => some (y, xs.dropLast)
  | none => none
section
variable {X : Cx} {W : WX} {o a : Expr} {mo ma : M} {apos cpos : Pos}
theorem me_pop (ho : ME X W o mo) (hbase : attributeBase o "pop" X.env (eval o X.env) = eval o X.env := by rfl) (hline : (apos.endLine == cpos.line) = true := by rfl) :
    ME X W (.Call (.Attribute o "pop" apos) [] [] cpos) (mLm0 fPop mo) := by
  refine pe_imp (pe_bm0 PySem.F.plainAttrs_list PySem.F.slot_list_pop PySem.F.type_list_pop mt_pop ho hbase hline) fun σ H Q h => ?_
  obtain ⟨g, s, ok, h⟩ := h
  refine ⟨g, s, ok, (PostE.bind h).mono fun rv g1 s1 H1 t1 k1 o1 h1 v rr => ?_⟩
  split at h1
  · rename_i l e1
    have hv := locOf_ok rr e1
    subst hv
    split at h1
    · rename_i zs e2
      obtain ⟨us, hu, ru⟩ := cell_lst o1 e2
      refine ⟨.inl ⟨rfl, us, .of hu⟩, ?_⟩
      split at h1
      · rename_i x ys e4
        unfold fPop at e4
        split at e4
        · rename_i y ey
          cases e4
          obtain ⟨w, hw, rw'⟩ := ru.get ey
          refine ⟨_, us, w, rfl, rfl, hu, by rw [ru.length]; exact hw, ?_⟩
          refine kE_change (o' := .lst zs.dropLast) o1 e2 ⟨us.dropLast, upd_same, ?_⟩ rw' h1
          rw [List.dropLast_eq_take, List.dropLast_eq_take, ru.length]
          exact ru.take _
        · cases e4
      · exact h1.elim
    · exact h1.elim
  · exact h1.elim

/-! ### methods of texts with one argument -/
def mSm1 (f : Str → D → Option D) (o a : M) : M := fun s => (mLeak o s).bind fun d s1 => match d with
  | .str x => (mLeak a s1).bind fun y s2 => (match f x y with
    | some z => .ok (.d z) s2
    | none => .stuck)
  | _ => .stuck
theorem mSm1_of {f : Str → D → Option D} {r : V → List V → Hp → VK → Prop}
    (hf : ∀ (g : G) (x : Str) (y : V) (d z : D) (H : Hp) (Q : VK), Sub g.F H → Rep X.K g y d → f x d = some z → (∀ v, Rep X.K g v z → Q v H) → r (.str x) [y] H Q)
    {σ : L2.St} {H : Hp} {Q : VK} {g : G} {s : S} (ok : Ok X.K g s σ H) (h : PostE X.K W σ g s H (kE X.K Q) (mSm1 f mo ma s)) : tBM X.K "str" r (tM X.K W mo) (tCons (tM X.K W ma) tNil) σ H Q := by
  refine tM_leak ok (PostE.bind h) fun d g1 s1 H1 v t1 k1 o1 rv h1 => ?_
  split at h1
  · cases rv
    refine ⟨rfl, ?_⟩
    refine tM_leak o1 (PostE.bind h1) fun d g2 s2 H2 y t2 k2 o2 ry h2 => ?_
    split at h2
    · rename_i z e
      exact hf g2 _ y d z H2 Q o2.sub ry e fun v rv => kE_d h2 o2 rv
    · exact h2.elim
  · exact h1.elim
def fIndexS : Str → D → Option D := fun x d => match d with
  | .str y => (match Builtin.Str.occurrences x y 0 x.length 1 with
    | i :: _ => some (.int (i : Nat))
    | [] => none)
  | _ => none
theorem me_indexS (ho : ME X W o mo) (ha : ME X W a ma) (hbase : attributeBase o "index" X.env (eval o X.env) = eval o X.env := by rfl)
    (hfew : ((backTo cpos (starEach [a] X.env)).all (fun x => !x.1) && (backToKw cpos (keywordEach [] X.env)).all (fun x => x.1.isSome)
      && decide ([a].length + ([] : List Keyword).length + (if ([] : List Keyword).isEmpty then 0 else 1) < 30)) = true := by rfl)
    (hline : (apos.endLine == cpos.line) = true := by rfl) (hs : starEach [a] X.env = (false, eval a X.env) :: starEach [] X.env := by rfl) :
    ME X W (.Call (.Attribute o "index" apos) [a] [] cpos) (mSm1 fIndexS mo ma) := by
  refine pe_imp (pe_bm PySem.F.plainAttrs_str PySem.F.slot_str_index PySem.F.type_str_index mt_sindex ho (pa_cons ha pa_nil hs) hbase hfew hline hs) fun σ H Q h => ?_
  obtain ⟨g, s, ok, h⟩ := h
  refine mSm1_of (fun g x y d z H Q sb ry e q => ?_) ok h
  unfold fIndexS at e
  split at e
  · rename_i y0
    cases ry
    split at e
    · rename_i i rest ho
      cases e
      exact ⟨x, _, i, rest, rfl, rfl, ho, q _ (.int _)⟩
    · cases e
  · cases e
def strsOf : List D → Option (List Str)
  | [] => some []
  | .str i :: r => (strsOf r).map (i :: ·)
  | _ :: _ => none
theorem strsOf_ok {K : PySem.W.Frag} {g : G} : ∀ {vs : List V} {ds : List D} {bs : List Str}, RepL K g vs ds → strsOf ds = some bs → vs = bs.map V.str
  | _, _, _, .nil, e => by cases e; rfl
  | _, _, bs, .cons (d := d) a b, e => by
    cases d with
    | str k =>
      cases a
      simp only [strsOf] at e
      obtain ⟨cs, e1, rfl⟩ := Option.map_eq_some_iff.mp e
      rw [strsOf_ok b e1]; rfl
    | _ => cases e
def joinD (x : Str) (ds : List D) : Option D := match strsOf ds with
  | some ys => if (ys.map (·.length)).sum + ys.length * x.length ≤ 16777216 then some (.str (Txt.join x ys)) else none
  | none => none
def fJoin : Str → D → Option D := fun x d => match d with
  | .lst ds => joinD x ds
  | .tup ds => joinD x ds
  | _ => none
theorem joinD_ok {x : Str} {ds : List D} {z : D} (e : joinD x ds = some z) : ∃ ys, strsOf ds = some ys ∧ (ys.map (·.length)).sum + ys.length * x.length ≤ 16777216 ∧ z = .str (Txt.join x ys) := by
  unfold joinD at e
  split at e
  · rename_i ys e1
    split at e
    · rename_i h
      cases e
      exact ⟨ys, e1, h, rfl⟩
    · cases e
  · cases e
theorem me_join (ho : ME X W o mo) (ha : ME X W a ma) (hbase : attributeBase o "join" X.env (eval o X.env) = eval o X.env := by rfl)
    (hfew : ((backTo cpos (starEach [a] X.env)).all (fun x => !x.1) && (backToKw cpos (keywordEach [] X.env)).all (fun x => x.1.isSome)
      && decide ([a].length + ([] : List Keyword).length + (if ([] : List Keyword).isEmpty then 0 else 1) < 30)) = true := by rfl)
    (hline : (apos.endLine == cpos.line) = true := by rfl) (hs : starEach [a] X.env = (false, eval a X.env) :: starEach [] X.env := by rfl) :
    ME X W (.Call (.Attribute o "join" apos) [a] [] cpos) (mSm1 fJoin mo ma) := by
  refine pe_imp (pe_bm PySem.F.plainAttrs_str PySem.F.slot_str_join PySem.F.type_str_join mt_join ho (pa_cons ha pa_nil hs) hbase hfew hline hs) fun σ H Q h => ?_
  obtain ⟨g, s, ok, h⟩ := h
  refine mSm1_of (fun g x y d z H Q sb ry e q => ?_) ok h
  unfold fJoin at e
  split at e
  · cases ry
    rename_i b us hb rz
    obtain ⟨ys, e1, hz, rfl⟩ := joinD_ok e
    have eu := strsOf_ok rz e1
    subst eu
    exact ⟨x, b, ys, rfl, rfl, .inl (.of (sb _ _ hb)), hz, q _ (.str _)⟩
  · cases ry
    rename_i b us hb rz
    obtain ⟨ys, e1, hz, rfl⟩ := joinD_ok e
    have eu := strsOf_ok rz e1
    subst eu
    exact ⟨x, b, ys, rfl, rfl, .inr (sqT_mono sb hb), hz, q _ (.str _)⟩
  · cases e
end

/-! ### x += e, ints -/
def mAug (i : Nat) (f : Int → Int → Int) (m : M) : S → Res Out := fun s => match s.env[i]? with
  | some (.val (.int a)) => (m s).bind fun r s1 => (match asInt r with
    | some b => (match assign i (.d (.int (f a b))) s1 with
      | some s2 => .ok .nx s2
      | none => .stuck)
    | none => .stuck)
  | _ => .stuck
section
variable {X : Cx} {W : WX} {e : Expr} {me : M} {pos : Pos}
theorem ms_aug {i : Nat} {x : Str} {f : Int → Int → Int} {op : Operator} {pos' : Pos} (hp : PIp X op (ipI f)) (he : ME X W e me) (hN : X.N.Nodup) (hi : X.N[i]? = some x := by rfl) (hx : L2.Loc X.env.scope x := by first | exact Or.inl rfl | exact Or.inr rfl)
    (hf : X.fn x = true ∨ X.env.scope.names.lookup x = some .local := by first | exact .inl rfl | exact .inr rfl) : MS X W (.AugAssign (.Name x pos') op e pos) (mAug i f me) := by
  refine ps_imp (ps_aug hN hi hx he hp hf) fun D σ H ⟨g, s, ok, h⟩ => ?_
  unfold mAug at h
  split at h
  · rename_i a e1
    obtain ⟨v, ev, rv⟩ := ok.env i _ e1
    cases rv
    refine ⟨.int a, ev, g, s, ok, (PostS.bind h).mono fun r g1 s1 H1 t1 k1 o1 h1 v rv => ?_⟩
    split at h1
    · rename_i b eb
      refine ⟨a, b, rfl, asInt_ok rv eb, ?_⟩
      split at h1
      · rename_i s2 e2
        obtain ⟨g2, t2, o2⟩ := assign_ok (v := .int (f a b)) o1 (show RepRV X.K g1 s1 H1 _ (.d _) from .int _) e2
        exact h1 _ g2 H1 t2 o2
      · exact h1.elim
    · exact h1.elim
  · exact h.elim
theorem ms_augAdd {i : Nat} {x : Str} {pos' : Pos} (he : ME X W e me) (hN : X.N.Nodup) (hi : X.N[i]? = some x := by rfl) (hx : L2.Loc X.env.scope x := by first | exact Or.inl rfl | exact Or.inr rfl)
    (hf : X.fn x = true ∨ X.env.scope.names.lookup x = some .local := by first | exact .inl rfl | exact .inr rfl) : MS X W (.AugAssign (.Name x pos') .Add e pos) (mAug i (fun a b => a + b) me) := ms_aug ip_add he hN hi hx hf
theorem ms_augSub {i : Nat} {x : Str} {pos' : Pos} (he : ME X W e me) (hN : X.N.Nodup) (hi : X.N[i]? = some x := by rfl) (hx : L2.Loc X.env.scope x := by first | exact Or.inl rfl | exact Or.inr rfl)
    (hf : X.fn x = true ∨ X.env.scope.names.lookup x = some .local := by first | exact .inl rfl | exact .inr rfl) : MS X W (.AugAssign (.Name x pos') .Sub e pos) (mAug i (fun a b => a - b) me) := ms_aug ip_sub he hN hi hx hf
end
end MI
/-! # Running mirrors: equations for simp -/
namespace MI
open PySem PySem.Spec PyProof.Rows L2

section
variable {s : S} {i j : Int} {x y : D} {e : List Slot} {gl : List MObj} {xs ys : List D}
theorem q_var_val {n : Nat} (h : e[n]? = some (.val x)) : mVar n ⟨e, gl⟩ = .ok (.d x) ⟨e, gl⟩ := by
  unfold mVar; simp only [h]
theorem q_var_own {n : Nat} {o : MObj} (h : e[n]? = some (.own o)) : mVar n ⟨e, gl⟩ = .ok (.at n) ⟨e, gl⟩ := by
  unfold mVar; simp only [h]
theorem q_c : mC x s = .ok (.d x) s := rfl
@[simp] theorem q_settle_d : settle (.d x) = some (.d x) := rfl
@[simp] theorem q_settle_at {n : Nat} : settle (.at n) = some (.at n) := rfl
@[simp] theorem q_settle_lst : settle (.new (.lst xs)) = some (.d (.lst xs)) := rfl
@[simp] theorem q_settle_dic {kvs : List (Key × D)} : settle (.new (.dic kvs)) = some (.d (.dic kvs)) := rfl
@[simp] theorem q_leak_d : leak (.d x) s = some (x, s) := rfl
@[simp] theorem q_leak_lst : leak (.new (.lst xs)) s = some (.lst xs, s) := rfl
@[simp] theorem q_leak_dic {kvs : List (Key × D)} : leak (.new (.dic kvs)) s = some (.dic kvs, s) := rfl
theorem q_leak_at {n : Nat} {o : MObj} {d : D} (h : e[n]? = some (.own o)) (hf : frzO o = some d) : leak (.at n) ⟨e, gl⟩ = some (d, ⟨e.set n (.val d), gl⟩) := by
  unfold leak; simp only [h, hf, Option.map_some]
@[simp] theorem q_frz_lst : frzO (.lst xs) = some (.lst xs) := rfl
@[simp] theorem q_frz_dic {kvs : List (Key × D)} : frzO (.dic kvs) = some (.dic kvs) := rfl
/- operations -/
@[simp] theorem q_add : opAdd s (.d (.int i)) (.d (.int j)) = .ok (.d (.int (i + j))) s := rfl
@[simp] theorem q_sub : opSub s (.d (.int i)) (.d (.int j)) = .ok (.d (.int (i - j))) s := rfl
theorem q_mul (h : cMul i j = true) : opMul s (.d (.int i)) (.d (.int j)) = .ok (.d (.int (i * j))) s := by
  unfold opMul orF opMulI fI asInt; simp only [h, if_true]
theorem q_mulR (h : j.natAbs < 2 ^ 64) : opMul s (.d (.int i)) (.d (.int j)) = .ok (.d (.int (i * j))) s := q_mul (by unfold cMul; simp only [decide_eq_true h, Bool.or_true, Bool.true_or])
theorem q_mulL (h : i.natAbs < 2 ^ 64) : opMul s (.d (.int i)) (.d (.int j)) = .ok (.d (.int (i * j))) s := q_mul (by unfold cMul; simp only [decide_eq_true h, Bool.or_true, Bool.true_or])
theorem q_mod (h : 0 < j) : opMod s (.d (.int i)) (.d (.int j)) = .ok (.d (.int (i % j))) s := by
  unfold opMod fI asInt cMod; simp only [decide_eq_true h, if_true]
theorem q_fdiv (h : 0 < j) (h2 : j < 1073741824) : opFdiv s (.d (.int i)) (.d (.int j)) = .ok (.d (.int (i / j))) s := by
  unfold opFdiv fI asInt cFdiv; simp only [decide_eq_true h, decide_eq_true h2, Bool.true_or, Bool.and_self, if_true]
theorem q_fdivW (h : 0 < j) (h2 : j.natAbs.log2 < 9000) : opFdiv s (.d (.int i)) (.d (.int j)) = .ok (.d (.int (i / j))) s := by
  unfold opFdiv fI asInt cFdiv; simp only [decide_eq_true h, decide_eq_true h2, Bool.or_true, Bool.and_self, if_true]
theorem q_addT (h : xs.length + ys.length ≤ sizeLine) : opAdd s (.d (.tup xs)) (.d (.tup ys)) = .ok (.d (.tup (xs ++ ys))) s := by
  unfold opAdd orF opAddI fI asInt opAddS asStr opAddT asTup; simp only [h, if_true]
theorem q_addL {a b : RV} (ha : asLst s a = some xs) (hb : asLst s b = some ys) (h : xs.length + ys.length ≤ sizeLine) : opAdd s a b = .ok (.new (.lst (xs ++ ys))) s := by
  have i1 : asInt a = none := by cases a with
    | d z => cases z <;> first | rfl | cases ha
    | «at» n => rfl
    | new o => rfl
  have i2 : asStr a = none := by cases a with
    | d z => cases z <;> first | rfl | cases ha
    | «at» n => rfl
    | new o => rfl
  have i3 : asTup a = none := by cases a with
    | d z => cases z <;> first | rfl | cases ha
    | «at» n => rfl
    | new o => rfl
  unfold opAdd orF opAddI fI opAddS opAddT opAddL
  simp only [i1, i2, i3, ha, hb, h, if_true]
theorem q_mulT1 : opMul s (.d (.tup xs)) (.d (.int 1)) = .ok (.d (.tup xs)) s := by
  have h : opMulT s (.d (.tup xs)) (.d (.int 1)) = .ok (.d (.tup xs)) s := by simp [opMulT, asTup, asInt]
  show (match opMulT s (.d (.tup xs)) (.d (.int 1)) with | .stuck => _ | r => r) = _
  rw [h]
theorem q_mulT {k : Int} (h0 : 2 ≤ k) (h1 : k ≤ 1000) (h2 : xs.length ≤ 1000) : opMul s (.d (.tup xs)) (.d (.int k)) = .ok (.d (.tup (List.replicate k.toNat xs).flatten)) s := by
  have h : opMulT s (.d (.tup xs)) (.d (.int k)) = .ok (.d (.tup (List.replicate k.toNat xs).flatten)) s := by
    by_cases hx : xs = []
    · subst hx
      have a1 : -(2 ^ 63) ≤ k := by omega
      have a2 : k < 2 ^ 63 := by omega
      have a3 : (List.replicate k.toNat ([] : List D)).flatten = [] := by simp
      rw [a3]
      simp only [opMulT, asTup, asInt, List.isEmpty_nil, Bool.true_or, if_true, a1, a2, and_self]
    · have e1 : xs.isEmpty = false := by cases xs with
        | nil => exact absurd rfl hx
        | cons _ _ => rfl
      have e2 : (k == 1) = false := by simp; omega
      simp only [opMulT, asTup, asInt, e1, e2, Bool.or_self, Bool.false_eq_true, if_false, h0, h1, h2, and_self, if_true]
  show (match opMulT s (.d (.tup xs)) (.d (.int k)) with | .stuck => _ | r => r) = _
  rw [h]
@[simp] theorem q_lt : opLt s (.d (.int i)) (.d (.int j)) = .ok (.d (.bl (decide (i < j)))) s := rfl
@[simp] theorem q_le : opLe s (.d (.int i)) (.d (.int j)) = .ok (.d (.bl (decide (i ≤ j)))) s := rfl
@[simp] theorem q_gt : opGt s (.d (.int i)) (.d (.int j)) = .ok (.d (.bl (decide (j < i)))) s := rfl
@[simp] theorem q_ge : opGe s (.d (.int i)) (.d (.int j)) = .ok (.d (.bl (decide (j ≤ i)))) s := rfl
theorem q_ixT {d : D} {zs : List D} (h : atI zs i = some d) : opIx s (.d (.tup zs)) (.d (.int i)) = .ok (.d d) s := by
  simp only [opIx, asInt, asTup, h]
theorem q_ixL {a : RV} {d : D} {zs : List D} (ha : asLst s a = some zs) (h : atI zs i = some d) : opIx s a (.d (.int i)) = .ok (.d d) s := by
  have h1 : asTup a = none := by cases a with
    | d z => cases z <;> first | rfl | cases ha
    | «at» n => rfl
    | new o => rfl
  simp only [opIx, asInt, h1, ha, h]
@[simp] theorem q_eqI {n : Bool} : opEq n s (.d (.int i)) (.d (.int j)) = .ok (.d (.bl ((i == j) != n))) s := rfl
theorem q_eq {n b : Bool} (hx : asD s (.d x) = some x) (hy : asD s (.d y) = some y) (h : eqvO 40 x y = some b) : opEq n s (.d x) (.d y) = .ok (.d (.bl (b != n))) s := by
  unfold opEq; simp only [hx, hy, h]
theorem eqAll_int {m : Nat} : ∀ (a b : List Int), eqAll (eqvO m) (a.map D.int) (b.map D.int) = some (decide (a = b))
  | [], [] => by simp [eqAll]
  | [], _ :: _ => by simp [eqAll]
  | _ :: _, [] => by simp [eqAll]
  | x :: xs, y :: ys => by
    have e : eqvO m (.int x) (.int y) = some (x == y) := by cases m <;> rfl
    simp only [List.map_cons, eqAll, e, eqAll_int xs ys, List.cons.injEq]
    by_cases h1 : x = y <;> by_cases h2 : xs = ys <;> simp [h1, h2]
@[simp] theorem q_eqT {n : Bool} {a b : List Int} : opEq n s (.d (.tup (a.map D.int))) (.d (.tup (b.map D.int))) = .ok (.d (.bl (decide (a = b) != n))) s :=
  q_eq rfl rfl (show eqAll (eqvO 39) (a.map D.int) (b.map D.int) = _ from eqAll_int a b)
@[simp] theorem q_lenT : fLen s (.d (.tup xs)) = .ok (.d (.int xs.length)) s := rfl
theorem q_lenL {a : RV} {zs : List D} (h : asD s a = some (.lst zs)) : fLen s a = .ok (.d (.int zs.length)) s := by
  unfold fLen; simp only [h, Option.bind_some, lenD]
@[simp] theorem q_int : fInt s (.d (.int i)) = .ok (.d (.int i)) s := rfl
@[simp] theorem q_neg : fNeg s (.d (.int i)) = .ok (.d (.int (-i))) s := rfl
end
/-! ### the combinators at a state -/
section
variable {s : S} {e : List Slot} {gl : List MObj} {i j k : Nat} {m a b c : M} {t u : S → Res Bool} {la : S → Res (List D)} {lr : S → Res (List RV)} {p q : S → Res Out} {f g : S → RV → RV → Res RV} {h : S → RV → Res RV} {x : D} {lo hi : S → Res (Option Int)}
@[simp] theorem ap_C : mC x s = .ok (.d x) s := rfl
@[simp] theorem ap_Var : mVar i ⟨e, gl⟩ = (match e[i]? with | some (.val x) => .ok (.d x) ⟨e, gl⟩ | some (.own _) => .ok (.at i) ⟨e, gl⟩ | _ => .stuck) := rfl
@[simp] theorem ap_Leak : mLeak m s = (m s).bind fun r s1 => match leak r s1 with | some (d, s2) => .ok d s2 | none => .stuck := rfl
@[simp] theorem ap_Settle : mSettle m s = (m s).bind fun r s1 => match settle r with | some r' => .ok r' s1 | none => .stuck := rfl
@[simp] theorem ap_Bin : mBin f a b s = (mSettle a s).bind fun x s1 => (b s1).bind fun y s2 => f s2 x y := rfl
@[simp] theorem ap_ANil : mANil s = .ok [] s := rfl
@[simp] theorem ap_ACons : mACons a la s = (mLeak a s).bind fun d s1 => (la s1).bind fun ds s2 => .ok (d :: ds) s2 := rfl
@[simp] theorem ap_Tup : mTup la s = (la s).bind fun ds s1 => if ds.length ≤ sizeLine then .ok (.d (.tup ds)) s1 else .stuck := rfl
@[simp] theorem ap_Lst : mLst la s = (la s).bind fun ds s1 => if ds.length ≤ sizeLine then .ok (.new (.lst ds)) s1 else .stuck := rfl
@[simp] theorem ap_Call {fm : Fm} : mCall fm la s = (la s).bind fun ds s1 => match fm ds s1.gl with | .ok d gl => .ok (.d d) { s1 with gl := gl } | .exc c p gl => .exc c p { s1 with gl := gl } | .stuck => .stuck := rfl
@[simp] theorem ap_Nx : mNx s = .ok .nx s := rfl
@[simp] theorem ap_Seq : mSeq p q s = (match p s with | .ok .nx s1 => q s1 | r => r) := rfl
@[simp] theorem ap_Expr : mExpr m s = (m s).bind fun _ s1 => .ok .nx s1 := rfl
@[simp] theorem ap_Ret : mRet m s = (mLeak m s).bind fun d s1 => .ok (.rt d) s1 := rfl
@[simp] theorem ap_RetN : mRetN s = .ok (.rt .non) s := rfl
@[simp] theorem ap_IfS : mIfS t p q s = (t s).bind fun c s1 => if c = true then p s1 else q s1 := rfl
@[simp] theorem ap_Set : mSet i m s = (m s).bind fun r s1 => match MI.assign i r s1 with | some s2 => .ok .nx s2 | none => .stuck := rfl
@[simp] theorem ap_Brk : mBrk s = .ok .bk s := rfl
@[simp] theorem ap_Cont : mCont s = .ok .ct s := rfl
@[simp] theorem ap_Hold : mHold a s = (a s).bind fun r s1 => match r with | .at i => (match leak (.at i) s1 with | some (d, s2) => .ok (.d d) s2 | none => .stuck) | r => .ok r s1 := by
  unfold mHold
  cases a s <;> rfl
@[simp] theorem ap_RNil : mRNil s = .ok [] s := rfl
@[simp] theorem ap_RCons : mRCons a lr s = (mHold a s).bind fun x s1 => (lr s1).bind fun xs s2 => .ok (x :: xs) s2 := rfl
@[simp] theorem ap_ParN {is : List Nat} : mParN is lr s = (lr s).bind fun rs s1 => match assignAll is rs s1 with | some s2 => .ok .nx s2 | none => .stuck := rfl
@[simp] theorem ap_Unp {is : List Nat} : mUnp is m s = (mLeak m s).bind fun d s1 => match d with | .tup ds => (match assignAll is (ds.map .d) s1 with | some s2 => .ok .nx s2 | none => .stuck) | _ => .stuck := by
  unfold mUnp
  cases mLeak m s <;> rfl
@[simp] theorem ap_NoPart : mNoPart s = .ok none s := rfl
@[simp] theorem ap_Part : mPart m s = (m s).bind fun r s1 => match asInt r with | some i => .ok (some i) s1 | none => .stuck := rfl
@[simp] theorem ap_Slice : mSlice a lo hi s = (mSettle a s).bind fun x s1 => (lo s1).bind fun l s2 => (hi s2).bind fun u s3 => opSl l u s3 x := rfl
@[simp] theorem ap_Fn1 : mFn1 h m s = (m s).bind fun r s1 => h s1 r := rfl
@[simp] theorem ap_Fn2 {o : Int → Int → Int} : mFn2 o la s = (la s).bind fun ds s1 => match ds with | [.int i, .int j] => .ok (.d (.int (o i j))) s1 | _ => .stuck := rfl
@[simp] theorem ap_Tru : mTru m s = (m s).bind fun r s1 => match (asD s1 r).bind truthD with | some b => .ok b s1 | none => .stuck := rfl
@[simp] theorem ap_NotT : mNotT t s = (t s).bind fun b s1 => .ok (!b) s1 := rfl
@[simp] theorem ap_AndT : mAndT t u s = (t s).bind fun c s1 => if c = true then u s1 else .ok false s1 := rfl
@[simp] theorem ap_OrT : mOrT t u s = (t s).bind fun c s1 => if c = true then .ok true s1 else u s1 := rfl
@[simp] theorem ap_If : mIf t a b s = (t s).bind fun c s1 => if c = true then a s1 else b s1 := rfl
@[simp] theorem ap_Bl : mBl m s = (m s).bind fun r s1 => match r with | .d (.bl b) => .ok b s1 | _ => .stuck := rfl
@[simp] theorem ap_AndV : mAndV a b s = (a s).bind fun r s1 => match r with | .d (.bl c) => if c = true then b s1 else .ok (.d (.bl false)) s1 | _ => .stuck := rfl
@[simp] theorem ap_OrV : mOrV a b s = (a s).bind fun r s1 => match r with | .d (.bl c) => if c = true then .ok (.d (.bl true)) s1 else b s1 | _ => .stuck := rfl
@[simp] theorem ap_NotV : mNotV a s = (a s).bind fun r s1 => match r with | .d (.bl c) => .ok (.d (.bl (!c))) s1 | _ => .stuck := rfl
@[simp] theorem ap_Chain : mChain f g a b c s = (mSettle a s).bind fun x s1 => (mSettle b s1).bind fun y s2 => (f s2 x y).bind fun z s3 => match z with | .d (.bl k) => if k = true then (c s3).bind fun w s4 => g s4 y w else .ok (.d (.bl false)) s3 | _ => .stuck := rfl
@[simp] theorem ap_Seqi : iSeq m s = (mLeak m s).bind fun d s1 => match d with | .lst xs => .ok xs s1 | .tup xs => .ok xs s1 | .scr xs => .ok xs s1 | _ => .stuck := rfl
theorem rng1_ok {j : Int} (h0 : 0 ≤ j) (h1 : j ≤ 1000000) : rng1 j = some (rangeD 0 j.toNat) := (rng1_eq j).trans (if_pos ⟨by omega, by omega⟩)
theorem rng1_nat {n : Nat} (h1 : n ≤ 1000000) : rng1 (n : Int) = some (rangeD 0 n) := rng1_ok (by omega) (by omega)
theorem rng2_ok {i j : Int} (h0 : -1000000 ≤ i) (h1 : i ≤ 1000000) (h2 : -1000000 ≤ j) (h3 : j ≤ 1000000) : rng2 i j = some (rangeD i (j - i).toNat) := (rng2_eq i j).trans (if_pos ⟨by omega, by omega, by omega, by omega⟩)
def optR {α : Type} (o : Option α) (s : S) : Res α := match o with
  | some l => .ok l s
  | none => .stuck
@[simp] theorem optR_some {α : Type} {l : α} : optR (some l) s = .ok l s := rfl
noncomputable def rngA (ds : List D) : Option (List D) := match ds with
  | [.int j] => rng1 j
  | _ => none
noncomputable def rngB (ds : List D) : Option (List D) := match ds with
  | [.int i, .int j] => rng2 i j
  | _ => none
@[simp] theorem rngA_1 {j : Int} : rngA [.int j] = rng1 j := Eq.trans rfl rfl
@[simp] theorem rngB_2 {i j : Int} : rngB [.int i, .int j] = rng2 i j := Eq.trans rfl rfl
@[simp] theorem ap_Range1 : iRange1 la s = (la s).bind fun ds s1 => optR (rngA ds) s1 := by
  unfold iRange1
  cases la s with
  | ok ds s1 =>
    simp only [Res.bind_ok]
    split
    · rename_i j
      rw [rngA_1]; unfold optR; cases rng1 j <;> rfl
    · rename_i h
      unfold rngA
      split
      · exact absurd rfl (h _)
      · rfl
  | exc c p s1 => rfl
  | stuck => rfl
@[simp] theorem ap_Range2 : iRange2 la s = (la s).bind fun ds s1 => optR (rngB ds) s1 := by
  unfold iRange2
  cases la s with
  | ok ds s1 =>
    simp only [Res.bind_ok]
    split
    · rename_i i j
      rw [rngB_2]; unfold optR; cases rng2 i j <;> rfl
    · rename_i h
      unfold rngB
      split
      · exact absurd rfl (h _ _)
      · rfl
  | exc c p s1 => rfl
  | stuck => rfl
@[simp] theorem ap_For {it : S → Res (List D)} {tg : D → S → Option S} : mFor it tg p s = (it s).bind fun ds s1 => forGo tg p ds s1 := rfl
@[simp] theorem ap_Yes : mYes s = .ok true s := rfl
@[simp] theorem ap_Alloc : mAlloc m s = (m s).bind fun r s1 => match r with | .new o => .ok (.d (.ref s1.gl.length)) { s1 with gl := s1.gl ++ [o] } | _ => .stuck := rfl
@[simp] theorem ap_Comp {vs : List Nat} {it : S → Res (List D)} {tg : D → S → Option S} : mComp vs it tg t m s = (it s).bind fun ds s1 => if noOwn s1.env vs = true then (match compGo vs tg t (mLeak m) ds [] (wipeS s1 vs) with
  | some (acc, s2) => .ok (.new (.lst acc)) { s2 with env := restE s1.env s2.env vs }
  | none => .stuck) else .stuck := rfl
@[simp] theorem ap_Raise {x f : Str} : mRaise x f m s = (mLeak m s).bind fun d s1 => match d with | .int i => if i.natAbs ≤ 1000000 then .exc x (.tup [.str f, .int i]) s1 else .stuck | _ => .stuck := rfl
@[simp] theorem ap_tgName : tgName i x s = MI.assign i (.d x) s := rfl
theorem as_d {x : D} (h : i < e.length) : MI.assign i (.d x) ⟨e, gl⟩ = some ⟨e.set i (.val x), gl⟩ := if_pos h
theorem as_new {o : MObj} (h : i < e.length) : MI.assign i (.new o) ⟨e, gl⟩ = some ⟨e.set i (.own o), gl⟩ := if_pos h
@[simp] theorem asA_nil : assignAll [] [] s = some s := rfl
@[simp] theorem asA_cons {r : RV} {is : List Nat} {rs : List RV} : assignAll (i :: is) (r :: rs) s = (match MI.assign i r s with | some s1 => assignAll is rs s1 | none => none) := rfl
@[simp] theorem ap_SetIx {v o ix : M} : mSetIx v o ix s = (mLeak v s).bind fun d s1 => (o s1).bind fun r s2 => match locOf r with
  | some l => (match cellOf s2 l with
    | some _ => (mLeak ix s2).bind fun k s3 => (match cellOf s3 l, k with
      | some (.lst xs), .int k => (match ixN xs.length k with
        | some j => .ok .nx (setCell s3 l (.lst (xs.set j d)))
        | none => .stuck)
      | _, _ => .stuck)
    | _ => .stuck)
  | none => .stuck := rfl
@[simp] theorem ap_Lm1 {fn : List D → D → Option (D × List D)} : mLm1 fn a b s = (a s).bind fun r s1 => match locOf r with
  | some l => (match cellOf s1 l with
    | some (.lst _) => (mLeak b s1).bind fun d s2 => (match cellOf s2 l with
      | some (.lst xs) => (match fn xs d with
        | some (x, ys) => .ok (.d x) (setCell s2 l (.lst ys))
        | none => .stuck)
      | _ => .stuck)
    | _ => .stuck)
  | none => .stuck := rfl
@[simp] theorem cell_gl {n : Nat} : cellOf ⟨e, gl⟩ (.gl n) = gl[n]? := rfl
@[simp] theorem cell_slot {n : Nat} : cellOf ⟨e, gl⟩ (.sl n) = (match e[n]? with | some (.own o) => some o | _ => none) := rfl
@[simp] theorem setCell_gl {n : Nat} {o : MObj} : setCell ⟨e, gl⟩ (.gl n) o = ⟨e, gl.set n o⟩ := rfl
@[simp] theorem setCell_sl {n : Nat} {o : MObj} : setCell ⟨e, gl⟩ (.sl n) o = ⟨e.set n (.own o), gl⟩ := rfl
end
@[simp] theorem forGo_nil {t : D → S → Option S} {p : S → Res Out} {s : S} : forGo t p [] s = .ok .nx s := rfl
theorem forGo_cons {t : D → S → Option S} {p : S → Res Out} {s : S} {d : D} {ds : List D} : forGo t p (d :: ds) s = (match t d s with
    | none => .stuck
    | some s1 => match p s1 with
      | .ok .nx s2 => forGo t p ds s2
      | .ok .ct s2 => forGo t p ds s2
      | .ok .bk s2 => .ok .nx s2
      | r => r) := rfl
theorem mDef_ok {n N : Nat} {body : S → Res Out} {ds : List D} {gl gl' : List MObj} {d : D} {e : List Slot} (hl : ds.length = n) (h : body ⟨ds.map Slot.val ++ List.replicate (N - n) Slot.none, gl⟩ = .ok (.rt d) ⟨e, gl'⟩) : mDef n N body ds gl = .ok d gl' := by
  unfold mDef
  rw [if_pos hl, h]
theorem mDef_exc {n N : Nat} {body : S → Res Out} {ds : List D} {gl gl' : List MObj} {c : Str} {p : D} {e : List Slot} (hl : ds.length = n) (h : body ⟨ds.map Slot.val ++ List.replicate (N - n) Slot.none, gl⟩ = .exc c p ⟨e, gl'⟩) : mDef n N body ds gl = .exc c p gl' := by
  unfold mDef
  rw [if_pos hl, h]
/-! ### lists of ints -/
abbrev IL (l : List Int) : List D := l.map D.int
theorem szN (n : Nat) (h : n ≤ 1000000) : n ≤ sizeLine := by rw [sizeLine_eq]; omega
@[simp] theorem sz0 : 0 ≤ sizeLine := Nat.zero_le _
@[simp] theorem sz1 : 1 ≤ sizeLine := szN _ (by omega)
@[simp] theorem sz1' : 1 < sizeLine := by rw [sizeLine_eq]; omega
@[simp] theorem sz2 : 2 ≤ sizeLine := szN _ (by omega)
@[simp] theorem sz3 : 3 ≤ sizeLine := szN _ (by omega)
@[simp] theorem sz4 : 4 ≤ sizeLine := szN _ (by omega)
@[simp] theorem sz5 : 5 ≤ sizeLine := szN _ (by omega)
@[simp] theorem sz6 : 6 ≤ sizeLine := szN _ (by omega)
section
variable {s : S} {a b : List Int} {i j : Int}
theorem q_addI (h : a.length + b.length ≤ 1000000) : opAdd s (.d (.tup (IL a))) (.d (.tup (IL b))) = .ok (.d (.tup (IL (a ++ b)))) s := by
  rw [q_addT (szN _ (by simpa using h))]
  simp
theorem q_addIL (h : a.length + b.length ≤ 1000000) {x y : RV} (hx : asLst s x = some (IL a)) (hy : asLst s y = some (IL b)) : opAdd s x y = .ok (.new (.lst (IL (a ++ b)))) s := by
  rw [q_addL hx hy (szN _ (by simpa using h))]
  simp
theorem q_shl (h : 0 ≤ j) (h1 : j ≤ 1000000) (h2 : i.natAbs < 2 ^ 64) : opShl s (.d (.int i)) (.d (.int j)) = .ok (.d (.int (i * 2 ^ j.toNat))) s := by
  have c : cPow i j = true := by
    unfold cPow
    rw [decide_eq_true h, decide_eq_true h1, decide_eq_true h2]
    rfl
  simp only [opShl, fI, asInt, c, if_true]
theorem atI_il {d : Int} (h0 : 0 ≤ i) (h : a[i.toNat]? = some d) : atI (IL a) i = some (.int d) := by
  have hl : i.toNat < a.length := (List.getElem?_eq_some_iff.mp h).1
  unfold atI ixN
  rw [if_pos h0, if_pos (by rw [List.length_map]; omega)]
  show (IL a)[i.toNat]? = _
  rw [List.getElem?_map, h]
  rfl
theorem cut_il {lo hi : Option Int} : cut (IL a) lo hi = IL (cut a lo hi) := by
  unfold cut
  rw [List.length_map, ← List.map_drop, ← List.map_take]
theorem q_slT {lo hi : Option Int} : opSl lo hi s (.d (.tup (IL a))) = .ok (.d (.tup (IL (cut a lo hi)))) s := by
  unfold opSl
  simp only [asTup, cut_il]
theorem cut_lo {α : Type} {xs : List α} {k : Nat} (h : k ≤ xs.length) : cut xs (some (k : Int)) none = xs.drop k := by
  unfold cut HT.sIx
  have e : ¬ ((k : Int) < 0) := by omega
  simp only [e, if_false, Int.toNat_natCast, Nat.min_eq_left h]
  rw [List.take_of_length_le]
  simp
theorem cut_hi {α : Type} {xs : List α} {k : Nat} (h : k ≤ xs.length) : cut xs none (some (k : Int)) = xs.take k := by
  unfold cut HT.sIx
  have e : ¬ ((k : Int) < 0) := by omega
  simp only [e, if_false, Int.toNat_natCast, Nat.min_eq_left h, List.drop_zero, Nat.sub_zero]
theorem cut_lohi {α : Type} {xs : List α} {k m : Nat} (h : k ≤ m) (h2 : m ≤ xs.length) : cut xs (some (k : Int)) (some (m : Int)) = (xs.drop k).take (m - k) := by
  unfold cut HT.sIx
  have e : ¬ ((k : Int) < 0) := by omega
  have e2 : ¬ ((m : Int) < 0) := by omega
  simp only [e, e2, if_false, Int.toNat_natCast, Nat.min_eq_left (Nat.le_trans h h2), Nat.min_eq_left h2]
end
@[simp] theorem sz0' : 0 < sizeLine := by rw [sizeLine_eq]; omega
@[simp] theorem sz2' : 2 < sizeLine := by rw [sizeLine_eq]; omega
@[simp] theorem sz3' : 3 < sizeLine := by rw [sizeLine_eq]; omega
@[simp] theorem sz4' : 4 < sizeLine := by rw [sizeLine_eq]; omega
@[simp] theorem sz5' : 5 < sizeLine := by rw [sizeLine_eq]; omega
/-! ### comprehensions over one name -/
inductive All2 {α β : Type} (R : α → β → Prop) : List α → List β → Prop
  | nil : All2 R [] []
  | cons {a : α} {b : β} {as : List α} {bs : List β} : R a b → All2 R as bs → All2 R (a :: as) (b :: bs)
section
variable {v : Nat} {e : M} {env : List Slot} {gl : List MObj}
theorem restE_one (hv : v < env.length) : restE env (env.set v .none) [v] = env := by
  show ((env.set v Slot.none).set v ((env[v]?).getD .none)) = env
  rw [List.set_set, List.getElem?_eq_getElem hv]
  simp
theorem set_none_set {x : Slot} : (env.set v x).set v .none = env.set v .none := List.set_set ..
theorem compGo_inv {P : List MObj → Prop} {R : D → D → Prop} (hv : v < env.length) : ∀ (ds acc : List D) (gl : List MObj), P gl → acc.length + ds.length ≤ sizeLine →
    (∀ d ∈ ds, ∀ gl, P gl → ∃ y gl', mLeak e ⟨env.set v (.val d), gl⟩ = .ok y ⟨env.set v (.val d), gl'⟩ ∧ P gl' ∧ R d y) →
    ∃ ys gl', compGo [v] (tgName v) mYes (mLeak e) ds acc ⟨env.set v .none, gl⟩ = some (acc ++ ys, ⟨env.set v .none, gl'⟩) ∧ P gl' ∧ All2 R ds ys
  | [], acc, gl, hP, _, _ => ⟨[], gl, by simp [compGo], hP, .nil⟩
  | d :: ds, acc, gl, hP, hl, he => by
    obtain ⟨y, gl1, e1, P1, R1⟩ := he d List.mem_cons_self gl hP
    have hl' : acc.length < sizeLine := by simp only [List.length_cons] at hl; omega
    obtain ⟨ys, gl2, e2, P2, R2⟩ := compGo_inv hv ds (acc ++ [y]) gl1 P1 (by simp only [List.length_append, List.length_cons, List.length_nil] at hl ⊢; omega) fun d' m => he d' (List.mem_cons_of_mem _ m)
    refine ⟨y :: ys, gl2, ?_, P2, .cons R1 R2⟩
    have ta : tgName v d ⟨env.set v .none, gl⟩ = some ⟨env.set v (.val d), gl⟩ := by
      rw [ap_tgName, as_d (by simpa using hv), List.set_set]
    unfold compGo
    rw [ta]
    simp only [ap_Yes, if_true, e1, hl']
    show compGo [v] (tgName v) mYes (mLeak e) ds (acc ++ [y]) ⟨(env.set v (.val d)).set v .none, gl1⟩ = _
    rw [List.set_set, e2]
    simp
theorem comp_inv {P : List MObj → Prop} {R : D → D → Prop} {it : S → Res (List D)} {s0 : S} {ds : List D} (hi : it s0 = .ok ds ⟨env, gl⟩) (hv : v < env.length) (ho : noOwn env [v] = true) (hP : P gl) (hl : ds.length ≤ sizeLine)
    (he : ∀ d ∈ ds, ∀ gl, P gl → ∃ y gl', mLeak e ⟨env.set v (.val d), gl⟩ = .ok y ⟨env.set v (.val d), gl'⟩ ∧ P gl' ∧ R d y) :
    ∃ ys gl', mComp [v] it (tgName v) mYes e s0 = .ok (.new (.lst ys)) ⟨env, gl'⟩ ∧ P gl' ∧ All2 R ds ys := by
  obtain ⟨ys, gl', h1, h2, h3⟩ := compGo_inv hv ds [] gl hP (by simpa using hl) he
  refine ⟨ys, gl', ?_, h2, h3⟩
  rw [ap_Comp, hi, Res.bind_ok, if_pos ho]
  show (match compGo [v] (tgName v) mYes (mLeak e) ds [] ⟨env.set v .none, gl⟩ with | some (acc, s2) => Res.ok (RV.new (.lst acc)) ⟨restE env s2.env [v], s2.gl⟩ | none => .stuck) = _
  rw [h1]
  show Res.ok (RV.new (.lst ([] ++ ys))) (⟨restE env (env.set v .none) [v], gl'⟩ : S) = _
  rw [restE_one hv, List.nil_append]
theorem forall2_map {g : D → D} : ∀ {ds ys : List D}, All2 (fun d y => y = g d) ds ys → ys = ds.map g
  | _, _, .nil => rfl
  | _, _, .cons h t => by rw [h, forall2_map t]; rfl
theorem comp_map {it : S → Res (List D)} {s0 : S} {ds : List D} {g : D → D} (hi : it s0 = .ok ds ⟨env, gl⟩) (hv : v < env.length) (ho : noOwn env [v] = true) (hl : ds.length ≤ sizeLine)
    (he : ∀ d ∈ ds, mLeak e ⟨env.set v (.val d), gl⟩ = .ok (g d) ⟨env.set v (.val d), gl⟩) :
    mComp [v] it (tgName v) mYes e s0 = .ok (.new (.lst (ds.map g))) ⟨env, gl⟩ := by
  obtain ⟨ys, gl', h1, h2, h3⟩ := comp_inv (P := fun z => z = gl) (R := fun d y => y = g d) hi hv ho rfl hl fun d m z hz => ⟨g d, gl, by rw [hz]; exact he d m, rfl, rfl⟩
  rw [h1, h2, forall2_map h3]
theorem rangeD_map (lo : Int) : ∀ n : Nat, rangeD lo n = (List.range n).map fun (k : Nat) => D.int (lo + (k : Int))
  | 0 => rfl
  | n + 1 => by
    rw [rangeD, rangeD_map (lo + 1) n, List.range_succ_eq_map, List.map_cons, List.map_map]
    have e0 : lo + ((0 : Nat) : Int) = lo := by omega
    rw [e0]
    congr 1
    refine List.map_congr_left fun k _ => ?_
    show D.int (lo + 1 + (k : Int)) = D.int (lo + ((k + 1 : Nat) : Int))
    congr 1
    omega
theorem rangeD_length (lo : Int) : ∀ n : Nat, (rangeD lo n).length = n
  | 0 => rfl
  | n + 1 => by rw [rangeD, List.length_cons, rangeD_length]
end
section
variable {s : S} {xs : List D} {n : Nat} {e : List Slot} {gl : List MObj}
@[simp] theorem q_listT : fList s (.d (.tup xs)) = .ok (.new (.lst xs)) s := rfl
@[simp] theorem q_listL : fList s (.d (.lst xs)) = .ok (.new (.lst xs)) s := rfl
@[simp] theorem q_listN : fList s (.new (.lst xs)) = .ok (.new (.lst xs)) s := rfl
@[simp] theorem q_tupT : fTuple s (.d (.tup xs)) = .ok (.d (.tup xs)) s := rfl
@[simp] theorem q_tupL : fTuple s (.d (.lst xs)) = .ok (.d (.tup xs)) s := rfl
@[simp] theorem q_tupN : fTuple s (.new (.lst xs)) = .ok (.d (.tup xs)) s := rfl
@[simp] theorem q_lenD : fLen s (.d (.lst xs)) = .ok (.d (.int xs.length)) s := rfl
@[simp] theorem q_lenN : fLen s (.new (.lst xs)) = .ok (.d (.int xs.length)) s := rfl
end
/-! ### loops by an invariant -/
theorem for_inv {t : D → S → Option S} {p : S → Res Out} {Inv : S → Prop} : ∀ (ds : List D) (s : S), Inv s → (∀ d ∈ ds, ∀ s, Inv s → ∃ s1 s2, t d s = some s1 ∧ p s1 = .ok .nx s2 ∧ Inv s2) → ∃ s', forGo t p ds s = .ok .nx s' ∧ Inv s'
  | [], s, h, _ => ⟨s, rfl, h⟩
  | d :: ds, s, h, hp => by
    obtain ⟨s1, s2, h1, h2, h3⟩ := hp d List.mem_cons_self s h
    obtain ⟨s', h4, h5⟩ := for_inv ds s2 h3 fun d' m => hp d' (List.mem_cons_of_mem _ m)
    exact ⟨s', by rw [forGo_cons, h1]; simp only [h2]; exact h4, h5⟩
theorem seq_nx {a b : S → Res Out} {s s1 : S} (h : a s = .ok .nx s1) : mSeq a b s = b s1 := by rw [ap_Seq, h]
theorem mem_rangeD {lo : Int} {n : Nat} {d : D} (h : d ∈ rangeD lo n) : ∃ k : Nat, k < n ∧ d = .int (lo + k) := by
  rw [rangeD_map] at h
  obtain ⟨k, hk, rfl⟩ := List.mem_map.mp h
  exact ⟨k, List.mem_range.mp hk, rfl⟩
theorem set_parts {α : Type} (l : List α) (k : Nat) (b : α) (h : k < l.length) : l.take k ++ [b] ++ l.drop (k + 1) = l.set k b := by
  rw [List.set_eq_take_append_cons_drop, if_pos h]
  simp
@[simp] theorem ap_TryX {x f : Str} {i j : Nat} {b : S → Res Out} {s : S} : mTryX x i j f b s = (match b s with
  | .exc c p s1 => (match tbOne x c with
    | some true => (match p with
      | .tup [.str f', q] => if f' = f ∧ i ≠ j ∧ i < s1.env.length then (match MI.assign j (.d q) { s1 with env := s1.env.set i .none } with
        | some s2 => .ok .nx s2
        | none => .stuck) else .stuck
      | _ => .stuck)
    | some false => .exc c p s1
    | none => .stuck)
  | r => r) := rfl
@[simp] theorem tb_same {x : Str} : tbOne x x = some true := if_pos rfl
end MI
/-! # More equations to run mirrors -/
namespace MI
open PySem L2
section
variable {e : List Slot} {gl : List MObj} {s : S} {o a m : M} {i : Nat}
@[simp] theorem ap_Lm0 {f : List D → Option (D × List D)} : mLm0 f o s = (o s).bind fun r s1 => match locOf r with
  | some l => (match cellOf s1 l with
    | some (.lst xs) => (match f xs with
      | some (x, ys) => .ok (.d x) (setCell s1 l (.lst ys))
      | none => .stuck)
    | _ => .stuck)
  | none => .stuck := rfl
@[simp] theorem ap_Sm1 {f : Str → D → Option D} : mSm1 f o a s = (mLeak o s).bind fun d s1 => match d with
  | .str x => (mLeak a s1).bind fun y s2 => (match f x y with
    | some z => .ok (.d z) s2
    | none => .stuck)
  | _ => .stuck := rfl
@[simp] theorem ap_Aug {f : Int → Int → Int} : mAug i f m s = (match s.env[i]? with
  | some (.val (.int a)) => (m s).bind fun r s1 => (match asInt r with
    | some b => (match MI.assign i (.d (.int (f a b))) s1 with
      | some s2 => .ok .nx s2
      | none => .stuck)
    | none => .stuck)
  | _ => .stuck) := rfl
@[simp] theorem ap_StrM : iStrM m s = (mLeak m s).bind fun d s1 => match d with
  | .str x => .ok (signs x) s1
  | _ => .stuck := rfl
end
@[simp] theorem lk_at {n : Nat} {e : List Slot} {gl : List MObj} : leak (.at n) ⟨e, gl⟩ = (match e[n]? with | some (.own o) => (frzO o).map fun d => (d, (⟨e.set n (.val d), gl⟩ : S)) | _ => none) := rfl
@[simp] theorem fPop_snoc (xs : List D) (x : D) : fPop (xs ++ [x]) = some (x, xs) := by
  unfold fPop
  rw [List.length_append, List.length_singleton, Nat.add_sub_cancel, List.getElem?_append_right (Nat.le_refl _)]
  simp
theorem fApp_ok (xs : List D) (x : D) (h : xs.length < 1000000) : fAppend xs x = some (.non, xs ++ [x]) := by
  unfold fAppend
  rw [if_pos (by rw [sizeLine_eq]; omega)]
theorem fExt_lst (xs ys : List D) (h : xs.length + ys.length ≤ 1000000) : fExtendA xs (.lst ys) = some (.non, xs ++ ys) := by
  unfold fExtendA
  simp only
  rw [if_pos (szN _ h)]
theorem fExt_tup (xs ys : List D) (h : xs.length + ys.length ≤ 1000000) : fExtendA xs (.tup ys) = some (.non, xs ++ ys) := by
  unfold fExtendA
  simp only
  rw [if_pos (szN _ h)]
/-- a while by its steps -/
theorem wh_stop {t : S → Res Bool} {l : S → Res Out} {s s' : S} (h : t s = .ok false s') : ∃ N, whileGo t l N s = .ok .nx s' := by
  refine ⟨1, ?_⟩
  unfold whileGo
  rw [h]
  simp
theorem wh_step {t : S → Res Bool} {l : S → Res Out} {s s1 s2 : S} {r : Res Out} (h : t s = .ok true s1) (h2 : l s1 = .ok .nx s2) (h3 : ∃ N, whileGo t l N s2 = r) : ∃ N, whileGo t l N s = r := by
  obtain ⟨N, h3⟩ := h3
  refine ⟨N + 1, ?_⟩
  unfold whileGo
  rw [h]
  simp only [Res.bind_ok, if_true, h2]
  exact h3
theorem wh_exc {t : S → Res Bool} {l : S → Res Out} {s s1 s2 : S} {c : Str} {p : D} (h : t s = .ok true s1) (h2 : l s1 = .exc c p s2) : ∃ N, whileGo t l N s = .exc c p s2 := by
  refine ⟨1, ?_⟩
  unfold whileGo
  rw [h]
  simp only [Res.bind_ok, if_true, h2]
theorem wh_done {t : S → Res Bool} {l : S → Res Out} {s : S} {r : Res Out} (h : ∃ N, whileGo t l N s = r) (hr : r ≠ .stuck) : mWhile t l s = r := by
  obtain ⟨N, h⟩ := h
  exact mWhile_eq h hr
end MI
namespace MI
open PySem L2
/-- a comprehension over l told by a, of the values b -/
theorem compGo_map {ι : Type} {v : Nat} {e : M} {env : List Slot} {gl : List MObj} (hv : v < env.length) (a b : ι → D) : ∀ (l : List ι) (acc : List D), acc.length + l.length ≤ sizeLine →
    (∀ i ∈ l, mLeak e ⟨env.set v (.val (a i)), gl⟩ = .ok (b i) ⟨env.set v (.val (a i)), gl⟩) →
    compGo [v] (tgName v) mYes (mLeak e) (l.map a) acc ⟨env.set v .none, gl⟩ = some (acc ++ l.map b, ⟨env.set v .none, gl⟩)
  | [], acc, _, _ => by simp [compGo]
  | i :: l, acc, hl, he => by
    have e1 := he i List.mem_cons_self
    have hl' : acc.length < sizeLine := by simp only [List.length_cons] at hl; omega
    have e2 := compGo_map hv a b l (acc ++ [b i]) (by simp only [List.length_append, List.length_cons, List.length_nil] at hl ⊢; omega) fun j m => he j (List.mem_cons_of_mem _ m)
    have ta : tgName v (a i) ⟨env.set v .none, gl⟩ = some ⟨env.set v (.val (a i)), gl⟩ := by
      rw [ap_tgName, as_d (by simpa using hv), List.set_set]
    rw [List.map_cons]
    unfold compGo
    rw [ta]
    simp only [ap_Yes, if_true, e1, hl']
    show compGo [v] (tgName v) mYes (mLeak e) (l.map a) (acc ++ [b i]) ⟨(env.set v (.val (a i))).set v .none, gl⟩ = _
    rw [List.set_set, e2]
    simp
theorem comp_mapI {ι : Type} {v : Nat} {e : M} {env : List Slot} {gl : List MObj} {it : S → Res (List D)} {s0 : S} (l : List ι) (a b : ι → D) (hi : it s0 = .ok (l.map a) ⟨env, gl⟩) (hv : v < env.length) (ho : noOwn env [v] = true) (hl : l.length ≤ 1000000)
    (he : ∀ i ∈ l, mLeak e ⟨env.set v (.val (a i)), gl⟩ = .ok (b i) ⟨env.set v (.val (a i)), gl⟩) :
    mComp [v] it (tgName v) mYes e s0 = .ok (.new (.lst (l.map b))) ⟨env, gl⟩ := by
  have h1 := compGo_map hv a b l [] (by rw [List.length_nil, Nat.zero_add]; exact szN _ hl) he
  rw [ap_Comp, hi, Res.bind_ok, if_pos ho]
  show (match compGo [v] (tgName v) mYes (mLeak e) (l.map a) [] ⟨env.set v .none, gl⟩ with | some (acc, s2) => Res.ok (RV.new (.lst acc)) ⟨restE env s2.env [v], s2.gl⟩ | none => .stuck) = _
  rw [h1]
  show Res.ok (RV.new (.lst ([] ++ l.map b))) (⟨restE env (env.set v .none) [v], gl⟩ : S) = _
  rw [restE_one hv, List.nil_append]
end MI
namespace K18
open PySem PySem.Spec PyProof.Rows L2 MI
abbrev tp (i : Nat) : Stmt := PySem.Challenge.pw_postingstold_k18_whole_numbers_and_value.main.body.getD i (.Pass ⟨0, 0, 0, 0⟩)
structure Fx (P : Program) (K : PySem.W.Frag) (mg : Str → Option Value) : Prop where
  g_len : mg "len" = none
  x_BadBytes : XcT P K mg "BadBytes" "place"
  d_byte_at : DefM K mg "byte_at" (defArgs (tp 5)) (defBody (tp 5)) (defScope (tp 5))
  v_GROUP : GInt mg "GROUP" 128
  d_number_bytes : DefM K mg "number_bytes" (defArgs (tp 6)) (defBody (tp 6)) (defScope (tp 6))
  d_read_number : DefM K mg "read_number" (defArgs (tp 7)) (defBody (tp 7)) (defScope (tp 7))
  d_numbers_bytes : DefM K mg "numbers_bytes" (defArgs (tp 8)) (defBody (tp 8)) (defScope (tp 8))
  d_read_numbers : DefM K mg "read_numbers" (defArgs (tp 9)) (defBody (tp 9)) (defScope (tp 9))
  d_gaps_of : DefM K mg "gaps_of" (defArgs (tp 10)) (defBody (tp 10)) (defScope (tp 10))
  d_numbers_of : DefM K mg "numbers_of" (defArgs (tp 11)) (defBody (tp 11)) (defScope (tp 11))
  d_gap_bytes : DefM K mg "gap_bytes" (defArgs (tp 12)) (defBody (tp 12)) (defScope (tp 12))
  d_read_gaps : DefM K mg "read_gaps" (defArgs (tp 13)) (defBody (tp 13)) (defScope (tp 13))
  v_SIGNS : GStr mg "SIGNS" " ,-.0123456789abcdefghijklmnopqrstuvwxyz"
  d_sign_bytes : DefM K mg "sign_bytes" (defArgs (tp 23)) (defBody (tp 23)) (defScope (tp 23))
  g_min : mg "min" = none
  g_range : mg "range" = none
  d_read_signs : DefM K mg "read_signs" (defArgs (tp 24)) (defBody (tp 24)) (defScope (tp 24))
  v_KINDS : GInt mg "KINDS" 5
  g_isinstance : mg "isinstance" = none
  g_str : mg "str" = none
  v_TEXT : GInt mg "TEXT" 2
  v_TUPLE : GInt mg "TUPLE" 3
  g_int : mg "int" = none
  v_ABOVE : GInt mg "ABOVE" 0
  v_BELOW : GInt mg "BELOW" 1
  g_bool : mg "bool" = none
  v_BARE_KIND : GInt mg "BARE_KIND" 4
  d_head_of : DefM K mg "head_of" (defArgs (tp 25)) (defBody (tp 25)) (defScope (tp 25))
  g_tuple : mg "tuple" = none
  d_pack : DefM K mg "pack" (defArgs (tp 26)) (defBody (tp 26)) (defScope (tp 26))
  v_BARE_ONES : GTup K mg "BARE_ONES" [.non, .bl false, .bl true]
  d_read_bare : DefM K mg "read_bare" (defArgs (tp 27)) (defBody (tp 27)) (defScope (tp 27))
  d_unpack : DefM K mg "unpack" (defArgs (tp 28)) (defBody (tp 28)) (defScope (tp 28))
  g_list : mg "list" = none
  d__law_box : DefM K mg "_law_box" (defArgs (tp 30)) (defBody (tp 30)) (defScope (tp 30))
  d__law_load : DefM K mg "_law_load" (defArgs (tp 31)) (defBody (tp 31)) (defScope (tp 31))
  d__law_draw : DefM K mg "_law_draw" (defArgs (tp 32)) (defBody (tp 32)) (defScope (tp 32))
  g_all : mg "all" = none
  d__law_same : DefM K mg "_law_same" (defArgs (tp 33)) (defBody (tp 33)) (defScope (tp 33))
  d__law_number : DefM K mg "_law_number" (defArgs (tp 34)) (defBody (tp 34)) (defScope (tp 34))
  d__law_head : DefM K mg "_law_head" (defArgs (tp 35)) (defBody (tp 35)) (defScope (tp 35))
  d__law_pack : DefM K mg "_law_pack" (defArgs (tp 36)) (defBody (tp 36)) (defScope (tp 36))
  d__law_value : DefM K mg "_law_value" (defArgs (tp 37)) (defBody (tp 37)) (defScope (tp 37))
  d__law_good : DefM K mg "_law_good" (defArgs (tp 38)) (defBody (tp 38)) (defScope (tp 38))
  d__law_told : DefM K mg "_law_told" (defArgs (tp 39)) (defBody (tp 39)) (defScope (tp 39))
  d__law_numbers : DefM K mg "_law_numbers" (defArgs (tp 40)) (defBody (tp 40)) (defScope (tp 40))
  d_law : DefM K mg "law" (defArgs (tp 41)) (defBody (tp 41)) (defScope (tp 41))
noncomputable section
variable {P : Program} {w : World} {K : PySem.W.Frag} {mg : Str → Option Value} {base : Heap}
theorem sc_byte_at : FnScope ["data", "place"] ["data", "place"] (defScope (tp 5)) := sc_of (by decide +kernel)
def b_byte_at : S → Res Out := (mSeq (mIfS (mBl (mBin opGe (mVar 1) (mFn1 fLen (mVar 0)))) (mRaise "BadBytes" "place" (mFn1 fLen (mVar 0))) mNx) (mRet (mBin opIx (mVar 0) (mVar 1))))
def f_byte_at : Fm := mDef 2 2 b_byte_at
theorem F_byte_at (c : Fx P K mg) : FnM P w K mg base 4 "byte_at" ["data", "place"] f_byte_at := by
  refine fnM (N := ["data", "place"]) (m := b_byte_at) c.d_byte_at sc_byte_at (by decide) (fun _ _ _ _ _ _ us hl => match us, hl with | [_, _], _ => rfl) fun f cdv A outer s H E hr => ?_
  have nd := (sc_byte_at).nd
  exact (mss_cons (ms_if (mt_cmp or_ge os_ge (me_var (i := 1)) (me_len (me_var (i := 0)) (by rfl) c.g_len) (nomark _)) (mss_one (ms_raise c.x_BadBytes.xm (hr.mono (by decide)) (by rfl) takesC (by rfl) (me_len (me_var (i := 0)) (by rfl) c.g_len))) mss_nil) (mss_one (ms_ret (me_ix (me_var (i := 0)) (me_var (i := 1))))))
theorem sc_number_bytes : FnScope ["number", "found"] ["number"] (defScope (tp 6)) := sc_of (by decide +kernel)
def t_number_bytes_1 : S → Res Bool := (mBl (mBin opGt (mVar 0) (mC (.int 0))))
def l_number_bytes_2 : S → Res Out := (mSeq (mExpr (mLm1 fAppend (mVar 1) (mBin opMod (mVar 0) (mC (.int 128))))) (mSet 0 (mBin opFdiv (mVar 0) (mC (.int 128)))))
def b_number_bytes : S → Res Out := (mSeq (mSet 1 (mLst (mACons (mBin opAdd (mC (.int 128)) (mBin opMod (mVar 0) (mC (.int 128)))) mANil))) (mSeq (mSet 0 (mBin opFdiv (mVar 0) (mC (.int 128)))) (mSeq (mWhile t_number_bytes_1 l_number_bytes_2) (mRet (mBin opRev (mVar 1) (mFn1 fNeg (mC (.int 1))))))))
def f_number_bytes : Fm := mDef 1 2 b_number_bytes
theorem F_number_bytes (c : Fx P K mg) : FnM P w K mg base 1 "number_bytes" ["number"] f_number_bytes := by
  refine fnM (N := ["number", "found"]) (m := b_number_bytes) c.d_number_bytes sc_number_bytes (by decide) (fun _ _ _ _ _ _ us hl => match us, hl with | [_], _ => rfl) fun f cdv A outer s H E hr => ?_
  have nd := (sc_number_bytes).nd
  exact (mss_cons (ms_set (i := 1) (me_lst (ma_cons (me_add (me_gint c.v_GROUP (by rfl)) (me_mod (me_var (i := 0)) (me_gint c.v_GROUP (by rfl)))) ma_nil)) nd) (mss_cons (ms_set (i := 0) (me_fdiv (me_var (i := 0)) (me_gint c.v_GROUP (by rfl))) nd) (mss_cons (ms_while owns (mt_cmp or_gt os_gt (me_var (i := 0)) me_int (nomark _)) (mss_cons (ms_expr (me_append (me_var (i := 1)) (me_mod (me_var (i := 0)) (me_gint c.v_GROUP (by rfl))))) (mss_one (ms_set (i := 0) (me_fdiv (me_var (i := 0)) (me_gint c.v_GROUP (by rfl))) nd)))) (mss_one (ms_ret (me_rev (me_var (i := 1)) (me_neg me_int)))))))
theorem sc_read_number : FnScope ["data", "place", "found", "byte"] ["data", "place"] (defScope (tp 7)) := sc_of (by decide +kernel)
def t_read_number_1 : S → Res Bool := (mBl (mBin opLt (mVar 3) (mC (.int 128))))
def l_read_number_2 : S → Res Out := (mSeq (mParN [2, 1] (mRCons (mBin opAdd (mBin opMul (mVar 2) (mC (.int 128))) (mVar 3)) (mRCons (mBin opAdd (mVar 1) (mC (.int 1))) mRNil))) (mSet 3 (mCall f_byte_at (mACons (mVar 0) (mACons (mVar 1) mANil)))))
def b_read_number : S → Res Out := (mSeq (mParN [2, 3] (mRCons (mC (.int 0)) (mRCons (mCall f_byte_at (mACons (mVar 0) (mACons (mVar 1) mANil))) mRNil))) (mSeq (mIfS (mBl (mBin (opEq false) (mVar 3) (mC (.int 0)))) (mRaise "BadBytes" "place" (mVar 1)) mNx) (mSeq (mWhile t_read_number_1 l_read_number_2) (mRet (mTup (mACons (mBin opSub (mBin opAdd (mBin opMul (mVar 2) (mC (.int 128))) (mVar 3)) (mC (.int 128))) (mACons (mBin opAdd (mVar 1) (mC (.int 1))) mANil)))))))
def f_read_number : Fm := mDef 2 4 b_read_number
theorem F_read_number (c : Fx P K mg) : FnM P w K mg base 5 "read_number" ["data", "place"] f_read_number := by
  refine fnM (N := ["data", "place", "found", "byte"]) (m := b_read_number) c.d_read_number sc_read_number (by decide) (fun _ _ _ _ _ _ us hl => match us, hl with | [_, _], _ => rfl) fun f cdv A outer s H E hr => ?_
  have nd := (sc_read_number).nd
  exact (mss_cons (ms_par (i := 2) (j := 3) (by rfl) nd (mr_cons me_int (mr_cons (me_fn (F_byte_at c) hr (by decide) (by rfl) takesC (ma_cons (me_var (i := 0)) (ma_cons (me_var (i := 1)) ma_nil))) mr_nil))) (mss_cons (ms_if (mt_cmp (op_eqM hr.units) os_eq (me_var (i := 3)) me_int (nomark _)) (mss_one (ms_raise c.x_BadBytes.xm (hr.mono (by decide)) (by rfl) takesC (by rfl) (me_var (i := 1)))) mss_nil) (mss_cons (ms_while owns (mt_cmp or_lt os_lt (me_var (i := 3)) (me_gint c.v_GROUP (by rfl)) (nomark _)) (mss_cons (ms_par (i := 2) (j := 1) (by rfl) nd (mr_cons (me_add (me_mul (me_var (i := 2)) (me_gint c.v_GROUP (by rfl))) (me_var (i := 3))) (mr_cons (me_add (me_var (i := 1)) me_int) mr_nil))) (mss_one (ms_set (i := 3) (me_fn (F_byte_at c) hr (by decide) (by rfl) takesC (ma_cons (me_var (i := 0)) (ma_cons (me_var (i := 1)) ma_nil))) nd)))) (mss_one (ms_ret (me_tup (ma_cons (me_sub (me_add (me_mul (me_var (i := 2)) (me_gint c.v_GROUP (by rfl))) (me_var (i := 3))) (me_gint c.v_GROUP (by rfl))) (ma_cons (me_add (me_var (i := 1)) me_int) ma_nil))))))))
theorem sc_numbers_bytes : FnScope ["numbers", "found", "number"] ["numbers"] (defScope (tp 8)) := sc_of (by decide +kernel)
def l_numbers_bytes_1 : S → Res Out := (mExpr (mLm1 fExtendA (mVar 1) (mCall f_number_bytes (mACons (mVar 2) mANil))))
def b_numbers_bytes : S → Res Out := (mSeq (mSet 1 (mLst mANil)) (mSeq (mFor (iSeq (mVar 0)) (tgName 2) l_numbers_bytes_1) (mRet (mVar 1))))
def f_numbers_bytes : Fm := mDef 1 3 b_numbers_bytes
theorem F_numbers_bytes (c : Fx P K mg) : FnM P w K mg base 2 "numbers_bytes" ["numbers"] f_numbers_bytes := by
  refine fnM (N := ["numbers", "found", "number"]) (m := b_numbers_bytes) c.d_numbers_bytes sc_numbers_bytes (by decide) (fun _ _ _ _ _ _ us hl => match us, hl with | [_], _ => rfl) fun f cdv A outer s H E hr => ?_
  have nd := (sc_numbers_bytes).nd
  exact (mss_cons (ms_set (i := 1) (me_lst ma_nil) nd) (mss_cons (ms_for owns (by rfl) (mi_seq (me_var (i := 0))) (mg_name nd) (mss_one (ms_expr (me_extendA (me_var (i := 1)) (me_fn (F_number_bytes c) hr (by decide) (by rfl) takesC (ma_cons (me_var (i := 2)) ma_nil)))))) (mss_one (ms_ret (me_var (i := 1))))))
theorem sc_read_numbers : FnScope ["data", "place", "many", "found", "number"] ["data", "place", "many"] (defScope (tp 9)) := sc_of (by decide +kernel)
def t_read_numbers_1 : S → Res Bool := (mBl (mBin opLt (mFn1 fLen (mVar 3)) (mVar 2)))
def l_read_numbers_2 : S → Res Out := (mSeq (mUnp [4, 1] (mCall f_read_number (mACons (mVar 0) (mACons (mVar 1) mANil)))) (mExpr (mLm1 fAppend (mVar 3) (mVar 4))))
def b_read_numbers : S → Res Out := (mSeq (mSet 3 (mLst mANil)) (mSeq (mWhile t_read_numbers_1 l_read_numbers_2) (mRet (mTup (mACons (mVar 3) (mACons (mVar 1) mANil))))))
def f_read_numbers : Fm := mDef 3 5 b_read_numbers
theorem F_read_numbers (c : Fx P K mg) : FnM P w K mg base 6 "read_numbers" ["data", "place", "many"] f_read_numbers := by
  refine fnM (N := ["data", "place", "many", "found", "number"]) (m := b_read_numbers) c.d_read_numbers sc_read_numbers (by decide) (fun _ _ _ _ _ _ us hl => match us, hl with | [_, _, _], _ => rfl) fun f cdv A outer s H E hr => ?_
  have nd := (sc_read_numbers).nd
  exact (mss_cons (ms_set (i := 3) (me_lst ma_nil) nd) (mss_cons (ms_while owns (mt_cmp or_lt os_lt (me_len (me_var (i := 3)) (by rfl) c.g_len) (me_var (i := 2)) (nomark _)) (mss_cons (ms_unp (by rfl) (me_fn (F_read_number c) hr (by decide) (by rfl) takesC (ma_cons (me_var (i := 0)) (ma_cons (me_var (i := 1)) ma_nil))) (mgs_cons (i := 4) (mgs_cons (i := 1) mgs_nil nd) nd)) (mss_one (ms_expr (me_append (me_var (i := 3)) (me_var (i := 4))))))) (mss_one (ms_ret (me_tup (ma_cons (me_var (i := 3)) (ma_cons (me_var (i := 1)) ma_nil)))))))
theorem sc_gaps_of : FnScope ["numbers", "before", "found", "number"] ["numbers", "before"] (defScope (tp 10)) := sc_of (by decide +kernel)
def l_gaps_of_1 : S → Res Out := (mSeq (mExpr (mLm1 fAppend (mVar 2) (mBin opSub (mBin opSub (mVar 3) (mVar 1)) (mC (.int 1))))) (mSet 1 (mVar 3)))
def b_gaps_of : S → Res Out := (mSeq (mSet 2 (mLst mANil)) (mSeq (mFor (iSeq (mVar 0)) (tgName 3) l_gaps_of_1) (mRet (mVar 2))))
def f_gaps_of : Fm := mDef 2 4 b_gaps_of
theorem F_gaps_of (c : Fx P K mg) : FnM P w K mg base 1 "gaps_of" ["numbers", "before"] f_gaps_of := by
  refine fnM (N := ["numbers", "before", "found", "number"]) (m := b_gaps_of) c.d_gaps_of sc_gaps_of (by decide) (fun _ _ _ _ _ _ us hl => match us, hl with | [_, _], _ => rfl) fun f cdv A outer s H E hr => ?_
  have nd := (sc_gaps_of).nd
  exact (mss_cons (ms_set (i := 2) (me_lst ma_nil) nd) (mss_cons (ms_for owns (by rfl) (mi_seq (me_var (i := 0))) (mg_name nd) (mss_cons (ms_expr (me_append (me_var (i := 2)) (me_sub (me_sub (me_var (i := 3)) (me_var (i := 1))) me_int))) (mss_one (ms_set (i := 1) (me_var (i := 3)) nd)))) (mss_one (ms_ret (me_var (i := 2))))))
theorem sc_numbers_of : FnScope ["gaps", "before", "found", "gap"] ["gaps", "before"] (defScope (tp 11)) := sc_of (by decide +kernel)
def l_numbers_of_1 : S → Res Out := (mSeq (mSet 1 (mBin opAdd (mBin opAdd (mVar 1) (mC (.int 1))) (mVar 3))) (mExpr (mLm1 fAppend (mVar 2) (mVar 1))))
def b_numbers_of : S → Res Out := (mSeq (mSet 2 (mLst mANil)) (mSeq (mFor (iSeq (mVar 0)) (tgName 3) l_numbers_of_1) (mRet (mVar 2))))
def f_numbers_of : Fm := mDef 2 4 b_numbers_of
theorem F_numbers_of (c : Fx P K mg) : FnM P w K mg base 1 "numbers_of" ["gaps", "before"] f_numbers_of := by
  refine fnM (N := ["gaps", "before", "found", "gap"]) (m := b_numbers_of) c.d_numbers_of sc_numbers_of (by decide) (fun _ _ _ _ _ _ us hl => match us, hl with | [_, _], _ => rfl) fun f cdv A outer s H E hr => ?_
  have nd := (sc_numbers_of).nd
  exact (mss_cons (ms_set (i := 2) (me_lst ma_nil) nd) (mss_cons (ms_for owns (by rfl) (mi_seq (me_var (i := 0))) (mg_name nd) (mss_cons (ms_set (i := 1) (me_add (me_add (me_var (i := 1)) me_int) (me_var (i := 3))) nd) (mss_one (ms_expr (me_append (me_var (i := 2)) (me_var (i := 1))))))) (mss_one (ms_ret (me_var (i := 2))))))
theorem sc_gap_bytes : FnScope ["numbers", "before"] ["numbers", "before"] (defScope (tp 12)) := sc_of (by decide +kernel)
def b_gap_bytes : S → Res Out := (mRet (mCall f_numbers_bytes (mACons (mCall f_gaps_of (mACons (mVar 0) (mACons (mVar 1) mANil))) mANil)))
def f_gap_bytes : Fm := mDef 2 2 b_gap_bytes
theorem F_gap_bytes (c : Fx P K mg) : FnM P w K mg base 3 "gap_bytes" ["numbers", "before"] f_gap_bytes := by
  refine fnM (N := ["numbers", "before"]) (m := b_gap_bytes) c.d_gap_bytes sc_gap_bytes (by decide) (fun _ _ _ _ _ _ us hl => match us, hl with | [_, _], _ => rfl) fun f cdv A outer s H E hr => ?_
  have nd := (sc_gap_bytes).nd
  exact (mss_one (ms_ret (me_fn (F_numbers_bytes c) hr (by decide) (by rfl) takesC (ma_cons (me_fn (F_gaps_of c) hr (by decide) (by rfl) takesC (ma_cons (me_var (i := 0)) (ma_cons (me_var (i := 1)) ma_nil))) ma_nil))))
theorem sc_read_gaps : FnScope ["data", "place", "many", "before", "gaps"] ["data", "place", "many", "before"] (defScope (tp 13)) := sc_of (by decide +kernel)
def b_read_gaps : S → Res Out := (mSeq (mUnp [4, 1] (mCall f_read_numbers (mACons (mVar 0) (mACons (mVar 1) (mACons (mVar 2) mANil))))) (mRet (mTup (mACons (mCall f_numbers_of (mACons (mVar 4) (mACons (mVar 3) mANil))) (mACons (mVar 1) mANil)))))
def f_read_gaps : Fm := mDef 4 5 b_read_gaps
theorem F_read_gaps (c : Fx P K mg) : FnM P w K mg base 7 "read_gaps" ["data", "place", "many", "before"] f_read_gaps := by
  refine fnM (N := ["data", "place", "many", "before", "gaps"]) (m := b_read_gaps) c.d_read_gaps sc_read_gaps (by decide) (fun _ _ _ _ _ _ us hl => match us, hl with | [_, _, _, _], _ => rfl) fun f cdv A outer s H E hr => ?_
  have nd := (sc_read_gaps).nd
  exact (mss_cons (ms_unp (by rfl) (me_fn (F_read_numbers c) hr (by decide) (by rfl) takesC (ma_cons (me_var (i := 0)) (ma_cons (me_var (i := 1)) (ma_cons (me_var (i := 2)) ma_nil)))) (mgs_cons (i := 4) (mgs_cons (i := 1) mgs_nil nd) nd)) (mss_one (ms_ret (me_tup (ma_cons (me_fn (F_numbers_of c) hr (by decide) (by rfl) takesC (ma_cons (me_var (i := 4)) (ma_cons (me_var (i := 3)) ma_nil))) (ma_cons (me_var (i := 1)) ma_nil))))))
theorem sc_sign_bytes : FnScope ["text", "sign"] ["text"] (defScope (tp 23)) := sc_of (by decide +kernel)
def e_sign_bytes_1 : M := (mSm1 fIndexS (mC (.str " ,-.0123456789abcdefghijklmnopqrstuvwxyz")) (mVar 1))
def b_sign_bytes : S → Res Out := (mRet (mComp [1] (iStrM (mVar 0)) (tgName 1) mYes e_sign_bytes_1))
def f_sign_bytes : Fm := mDef 1 2 b_sign_bytes
theorem F_sign_bytes (c : Fx P K mg) : FnM P w K mg base 1 "sign_bytes" ["text"] f_sign_bytes := by
  refine fnM (N := ["text", "sign"]) (m := b_sign_bytes) c.d_sign_bytes sc_sign_bytes (by decide) (fun _ _ _ _ _ _ us hl => match us, hl with | [_], _ => rfl) fun f cdv A outer s H E hr => ?_
  have nd := (sc_sign_bytes).nd
  exact (mss_one (ms_ret (me_comp (by rfl) nd (mi_str (me_var (i := 0))) (blk_of (own := [("sign", 1)]) (by rfl)) mgk_name (by decide) (fun _ _ _ _ _ => (mg_name nd).pg) (fun _ _ _ _ _ => mts_nil) (fun _ _ _ _ _ => (me_indexS (me_gstr c.v_SIGNS (by rfl)) (me_var (i := 1)))))))
theorem sc_read_signs : FnScope ["data", "place", "many", "signs", "k"] ["data", "place", "many"] (defScope (tp 24)) := sc_of (by decide +kernel)
def l_read_signs_1 : S → Res Out := (mSeq (mIfS (mBl (mBin opGe (mBin opIx (mVar 0) (mVar 4)) (mFn1 fLen (mC (.str " ,-.0123456789abcdefghijklmnopqrstuvwxyz"))))) (mRaise "BadBytes" "place" (mVar 4)) mNx) (mExpr (mLm1 fAppend (mVar 3) (mBin opIx (mC (.str " ,-.0123456789abcdefghijklmnopqrstuvwxyz")) (mBin opIx (mVar 0) (mVar 4))))))
def b_read_signs : S → Res Out := (mSeq (mSet 3 (mLst mANil)) (mSeq (mFor (iRange2 (mACons (mVar 1) (mACons (mFn2 minI (mACons (mBin opAdd (mVar 1) (mVar 2)) (mACons (mFn1 fLen (mVar 0)) mANil))) mANil))) (tgName 4) l_read_signs_1) (mSeq (mIfS (mBl (mBin opLt (mFn1 fLen (mVar 3)) (mVar 2))) (mRaise "BadBytes" "place" (mFn1 fLen (mVar 0))) mNx) (mRet (mSm1 fJoin (mC (.str "")) (mVar 3))))))
def f_read_signs : Fm := mDef 3 5 b_read_signs
theorem F_read_signs (c : Fx P K mg) : FnM P w K mg base 4 "read_signs" ["data", "place", "many"] f_read_signs := by
  refine fnM (N := ["data", "place", "many", "signs", "k"]) (m := b_read_signs) c.d_read_signs sc_read_signs (by decide) (fun _ _ _ _ _ _ us hl => match us, hl with | [_, _, _], _ => rfl) fun f cdv A outer s H E hr => ?_
  have nd := (sc_read_signs).nd
  exact (mss_cons (ms_set (i := 3) (me_lst ma_nil) nd) (mss_cons (ms_for owns (by rfl) (mi_range2 (ma_cons (me_var (i := 1)) (ma_cons (me_min2 (by rfl) (ma_cons (me_add (me_var (i := 1)) (me_var (i := 2))) (ma_cons (me_len (me_var (i := 0)) (by rfl) c.g_len) ma_nil)) (by rfl) c.g_min) ma_nil)) (by rfl) c.g_range) (mg_name nd) (mss_cons (ms_if (mt_cmp or_ge os_ge (me_ix (me_var (i := 0)) (me_var (i := 4))) (me_len (me_gstr c.v_SIGNS (by rfl)) (by rfl) c.g_len) (nomark _)) (mss_one (ms_raise c.x_BadBytes.xm (hr.mono (by decide)) (by rfl) takesC (by rfl) (me_var (i := 4)))) mss_nil) (mss_one (ms_expr (me_append (me_var (i := 3)) (me_ix (me_gstr c.v_SIGNS (by rfl)) (me_ix (me_var (i := 0)) (me_var (i := 4))))))))) (mss_cons (ms_if (mt_cmp or_lt os_lt (me_len (me_var (i := 3)) (by rfl) c.g_len) (me_var (i := 2)) (nomark _)) (mss_one (ms_raise c.x_BadBytes.xm (hr.mono (by decide)) (by rfl) takesC (by rfl) (me_len (me_var (i := 0)) (by rfl) c.g_len))) mss_nil) (mss_one (ms_ret (me_join me_str (me_var (i := 3))))))))
theorem sc_head_of : FnScope ["value"] ["value"] (defScope (tp 25)) := sc_of (by decide +kernel)
def b_head_of : S → Res Out := (mSeq (mIfS (mOrT (mBl (mBin (opIsN false) (mVar 0) (mC .non))) (mTru (mFn1 (fIsi .bool) (mVar 0)))) (mRet (mBin opAdd (mBin opMul (mC (.int 5)) (mIf (mBl (mBin (opIsN false) (mVar 0) (mC .non))) (mC (.int 0)) (mBin opAdd (mC (.int 1)) (mFn1 fInt (mVar 0))))) (mC (.int 4)))) mNx) (mSeq (mIfS (mTru (mFn1 (fIsi .int) (mVar 0))) (mRet (mIf (mBl (mBin opGe (mVar 0) (mC (.int 0)))) (mBin opAdd (mBin opMul (mC (.int 5)) (mVar 0)) (mC (.int 0))) (mBin opAdd (mBin opMul (mC (.int 5)) (mBin opSub (mFn1 fNeg (mC (.int 1))) (mVar 0))) (mC (.int 1))))) mNx) (mRet (mBin opAdd (mBin opMul (mC (.int 5)) (mFn1 fLen (mVar 0))) (mIf (mTru (mFn1 (fIsi .str) (mVar 0))) (mC (.int 2)) (mC (.int 3)))))))
def f_head_of : Fm := mDef 1 1 b_head_of
theorem F_head_of (c : Fx P K mg) : FnM P w K mg base 1 "head_of" ["value"] f_head_of := by
  refine fnM (N := ["value"]) (m := b_head_of) c.d_head_of sc_head_of (by decide) (fun _ _ _ _ _ _ us hl => match us, hl with | [_], _ => rfl) fun f cdv A outer s H E hr => ?_
  have nd := (sc_head_of).nd
  exact (mss_cons (ms_if (mt_w (mw_or (mt_cmp op_isN os_isN (me_var (i := 0)) me_non (nomark _)) (mw_or1 (mt_val (me_isi (T := .bool) (me_var (i := 0)) (by rfl) c.g_isinstance (by rfl) c.g_bool (by decide +kernel)))))) (mss_one (ms_ret (me_add (me_mul (me_gint c.v_KINDS (by rfl)) (me_if (mt_cmp op_isN os_isN (me_var (i := 0)) me_non (nomark _)) me_int (me_add me_int (me_toInt (me_var (i := 0)) (by rfl) c.g_int)))) (me_gint c.v_BARE_KIND (by rfl))))) mss_nil) (mss_cons (ms_if (mt_val (me_isi (T := .int) (me_var (i := 0)) (by rfl) c.g_isinstance (by rfl) c.g_int (by decide +kernel))) (mss_one (ms_ret (me_if (mt_cmp or_ge os_ge (me_var (i := 0)) me_int (nomark _)) (me_add (me_mul (me_gint c.v_KINDS (by rfl)) (me_var (i := 0))) (me_gint c.v_ABOVE (by rfl))) (me_add (me_mul (me_gint c.v_KINDS (by rfl)) (me_sub (me_neg me_int) (me_var (i := 0)))) (me_gint c.v_BELOW (by rfl)))))) mss_nil) (mss_one (ms_ret (me_add (me_mul (me_gint c.v_KINDS (by rfl)) (me_len (me_var (i := 0)) (by rfl) c.g_len)) (me_if (mt_val (me_isi (T := .str) (me_var (i := 0)) (by rfl) c.g_isinstance (by rfl) c.g_str (by decide +kernel))) (me_gint c.v_TEXT (by rfl)) (me_gint c.v_TUPLE (by rfl))))))))
theorem sc_pack : FnScope ["value", "found", "waiting", "here"] ["value"] (defScope (tp 26)) := sc_of (by decide +kernel)
def t_pack_1 : S → Res Bool := (mTru (mVar 2))
def l_pack_2 : S → Res Out := (mSeq (mSet 3 (mLm0 fPop (mVar 2))) (mSeq (mExpr (mLm1 fExtendA (mVar 1) (mCall f_number_bytes (mACons (mCall f_head_of (mACons (mVar 3) mANil)) mANil)))) (mIfS (mTru (mFn1 (fIsi .str) (mVar 3))) (mExpr (mLm1 fExtendA (mVar 1) (mCall f_sign_bytes (mACons (mVar 3) mANil)))) (mIfS (mTru (mFn1 (fIsi .tup) (mVar 3))) (mExpr (mLm1 fExtendA (mVar 2) (mBin opRev (mVar 3) (mFn1 fNeg (mC (.int 1)))))) mNx))))
def b_pack : S → Res Out := (mSeq (mParN [1, 2] (mRCons (mLst mANil) (mRCons (mLst (mACons (mVar 0) mANil)) mRNil))) (mSeq (mWhile t_pack_1 l_pack_2) (mRet (mFn1 fTuple (mVar 1)))))
def f_pack : Fm := mDef 1 4 b_pack
theorem F_pack (c : Fx P K mg) : FnM P w K mg base 2 "pack" ["value"] f_pack := by
  refine fnM (N := ["value", "found", "waiting", "here"]) (m := b_pack) c.d_pack sc_pack (by decide) (fun _ _ _ _ _ _ us hl => match us, hl with | [_], _ => rfl) fun f cdv A outer s H E hr => ?_
  have nd := (sc_pack).nd
  exact (mss_cons (ms_par (i := 1) (j := 2) (by rfl) nd (mr_cons (me_lst ma_nil) (mr_cons (me_lst (ma_cons (me_var (i := 0)) ma_nil)) mr_nil))) (mss_cons (ms_while owns (mt_val (me_var (i := 2))) (mss_cons (ms_set (i := 3) (me_pop (me_var (i := 2))) nd) (mss_cons (ms_expr (me_extendA (me_var (i := 1)) (me_fn (F_number_bytes c) hr (by decide) (by rfl) takesC (ma_cons (me_fn (F_head_of c) hr (by decide) (by rfl) takesC (ma_cons (me_var (i := 3)) ma_nil)) ma_nil)))) (mss_one (ms_if (mt_val (me_isi (T := .str) (me_var (i := 3)) (by rfl) c.g_isinstance (by rfl) c.g_str (by decide +kernel))) (mss_one (ms_expr (me_extendA (me_var (i := 1)) (me_fn (F_sign_bytes c) hr (by decide) (by rfl) takesC (ma_cons (me_var (i := 3)) ma_nil))))) (mss_one (ms_if (mt_val (me_isi (T := .tup) (me_var (i := 3)) (by rfl) c.g_isinstance (by rfl) c.g_tuple (by decide +kernel))) (mss_one (ms_expr (me_extendA (me_var (i := 2)) (me_rev (me_var (i := 3)) (me_neg me_int))))) mss_nil))))))) (mss_one (ms_ret (me_tuple (me_var (i := 1)) (by rfl) c.g_tuple)))))
theorem sc_read_bare : FnScope ["data", "kind", "size", "place"] ["data", "kind", "size", "place"] (defScope (tp 27)) := sc_of (by decide +kernel)
def b_read_bare : S → Res Out := (mSeq (mIfS (mBl (mBin (opEq false) (mVar 1) (mC (.int 0)))) (mRet (mVar 2)) mNx) (mSeq (mIfS (mBl (mBin (opEq false) (mVar 1) (mC (.int 1)))) (mRet (mBin opSub (mFn1 fNeg (mC (.int 1))) (mVar 2))) mNx) (mSeq (mIfS (mBl (mBin (opEq false) (mVar 1) (mC (.int 2)))) (mRet (mCall f_read_signs (mACons (mVar 0) (mACons (mVar 3) (mACons (mVar 2) mANil))))) mNx) (mSeq (mIfS (mBl (mBin opGe (mVar 2) (mFn1 fLen (mC (.tup [.non, .bl false, .bl true]))))) (mRaise "BadBytes" "place" (mBin opSub (mVar 3) (mC (.int 1)))) mNx) (mRet (mBin opIx (mC (.tup [.non, .bl false, .bl true])) (mVar 2)))))))
def f_read_bare : Fm := mDef 4 4 b_read_bare
theorem F_read_bare (c : Fx P K mg) : FnM P w K mg base 5 "read_bare" ["data", "kind", "size", "place"] f_read_bare := by
  refine fnM (N := ["data", "kind", "size", "place"]) (m := b_read_bare) c.d_read_bare sc_read_bare (by decide) (fun _ _ _ _ _ _ us hl => match us, hl with | [_, _, _, _], _ => rfl) fun f cdv A outer s H E hr => ?_
  have nd := (sc_read_bare).nd
  exact (mss_cons (ms_if (mt_cmp (op_eqM hr.units) os_eq (me_var (i := 1)) (me_gint c.v_ABOVE (by rfl)) (nomark _)) (mss_one (ms_ret (me_var (i := 2)))) mss_nil) (mss_cons (ms_if (mt_cmp (op_eqM hr.units) os_eq (me_var (i := 1)) (me_gint c.v_BELOW (by rfl)) (nomark _)) (mss_one (ms_ret (me_sub (me_neg me_int) (me_var (i := 2))))) mss_nil) (mss_cons (ms_if (mt_cmp (op_eqM hr.units) os_eq (me_var (i := 1)) (me_gint c.v_TEXT (by rfl)) (nomark _)) (mss_one (ms_ret (me_fn (F_read_signs c) hr (by decide) (by rfl) takesC (ma_cons (me_var (i := 0)) (ma_cons (me_var (i := 3)) (ma_cons (me_var (i := 2)) ma_nil)))))) mss_nil) (mss_cons (ms_if (mt_cmp or_ge os_ge (me_var (i := 2)) (me_len (me_gtup (ds := [.non, .bl false, .bl true]) c.v_BARE_ONES (fun g => (.cons .non (.cons (.bl _) (.cons (.bl _) .nil)))) (by rfl)) (by rfl) c.g_len) (nomark _)) (mss_one (ms_raise c.x_BadBytes.xm (hr.mono (by decide)) (by rfl) takesC (by rfl) (me_sub (me_var (i := 3)) me_int))) mss_nil) (mss_one (ms_ret (me_ix (me_gtup (ds := [.non, .bl false, .bl true]) c.v_BARE_ONES (fun g => (.cons .non (.cons (.bl _) (.cons (.bl _) .nil)))) (by rfl)) (me_var (i := 2)))))))))
theorem sc_unpack : FnScope ["data", "frames", "place", "head", "kind", "size", "parts"] ["data"] (defScope (tp 28)) := sc_of (by decide +kernel)
def t_unpack_1 : S → Res Bool := (mAndT (mBl (mBin opGt (mFn1 fLen (mVar 1)) (mC (.int 1)))) (mBl (mBin (opEq false) (mFn1 fLen (mBin opIx (mBin opIx (mVar 1) (mFn1 fNeg (mC (.int 1)))) (mC (.int 1)))) (mBin opIx (mBin opIx (mVar 1) (mFn1 fNeg (mC (.int 1)))) (mC (.int 0))))))
def l_unpack_2 : S → Res Out := (mSeq (mSet 6 (mBin opIx (mLm0 fPop (mVar 1)) (mC (.int 1)))) (mExpr (mLm1 fAppend (mBin opIx (mBin opIx (mVar 1) (mFn1 fNeg (mC (.int 1)))) (mC (.int 1))) (mFn1 fTuple (mVar 6)))))
def t_unpack_3 : S → Res Bool := (mOrT (mBl (mBin opGt (mFn1 fLen (mVar 1)) (mC (.int 1)))) (mBl (mBin opLt (mFn1 fLen (mBin opIx (mBin opIx (mVar 1) (mC (.int 0))) (mC (.int 1)))) (mC (.int 1)))))
def l_unpack_4 : S → Res Out := (mSeq (mUnp [3, 2] (mCall f_read_number (mACons (mVar 0) (mACons (mVar 2) mANil)))) (mSeq (mParN [4, 5] (mRCons (mBin opMod (mVar 3) (mC (.int 5))) (mRCons (mBin opFdiv (mVar 3) (mC (.int 5))) mRNil))) (mSeq (mIfS (mBl (mBin (opEq false) (mVar 4) (mC (.int 3)))) (mExpr (mLm1 fAppend (mVar 1) (mTup (mACons (mVar 5) (mACons (mAlloc (mLst mANil)) mANil))))) (mSeq (mExpr (mLm1 fAppend (mBin opIx (mBin opIx (mVar 1) (mFn1 fNeg (mC (.int 1)))) (mC (.int 1))) (mCall f_read_bare (mACons (mVar 0) (mACons (mVar 4) (mACons (mVar 5) (mACons (mVar 2) mANil))))))) (mAug 2 (fun a b => a + b) (mIf (mBl (mBin (opEq false) (mVar 4) (mC (.int 2)))) (mVar 5) (mC (.int 0)))))) (mWhile t_unpack_1 l_unpack_2))))
def b_unpack : S → Res Out := (mSeq (mParN [1, 2] (mRCons (mLst (mACons (mTup (mACons (mC (.int 1)) (mACons (mAlloc (mLst mANil)) mANil))) mANil)) (mRCons (mC (.int 0)) mRNil))) (mSeq (mWhile t_unpack_3 l_unpack_4) (mSeq (mIfS (mBl (mBin opLt (mVar 2) (mFn1 fLen (mVar 0)))) (mRaise "BadBytes" "place" (mVar 2)) mNx) (mRet (mBin opIx (mBin opIx (mBin opIx (mVar 1) (mC (.int 0))) (mC (.int 1))) (mC (.int 0)))))))
def f_unpack : Fm := mDef 1 7 b_unpack
theorem F_unpack (c : Fx P K mg) : FnM P w K mg base 6 "unpack" ["data"] f_unpack := by
  refine fnM (N := ["data", "frames", "place", "head", "kind", "size", "parts"]) (m := b_unpack) c.d_unpack sc_unpack (by decide) (fun _ _ _ _ _ _ us hl => match us, hl with | [_], _ => rfl) fun f cdv A outer s H E hr => ?_
  have nd := (sc_unpack).nd
  exact (mss_cons (ms_par (i := 1) (j := 2) (by rfl) nd (mr_cons (me_lst (ma_cons (me_tup (ma_cons me_int (ma_cons (me_alloc (me_lst ma_nil)) ma_nil))) ma_nil)) (mr_cons me_int mr_nil))) (mss_cons (ms_while owns (mt_w (mw_or (mt_cmp or_gt os_gt (me_len (me_var (i := 1)) (by rfl) c.g_len) me_int (nomark _)) (mw_or1 (mt_cmp or_lt os_lt (me_len (me_ix (me_ix (me_var (i := 1)) me_int) me_int) (by rfl) c.g_len) me_int (nomark _))))) (mss_cons (ms_unp (by rfl) (me_fn (F_read_number c) hr (by decide) (by rfl) takesC (ma_cons (me_var (i := 0)) (ma_cons (me_var (i := 2)) ma_nil))) (mgs_cons (i := 3) (mgs_cons (i := 2) mgs_nil nd) nd)) (mss_cons (ms_par (i := 4) (j := 5) (by rfl) nd (mr_cons (me_mod (me_var (i := 3)) (me_gint c.v_KINDS (by rfl))) (mr_cons (me_fdiv (me_var (i := 3)) (me_gint c.v_KINDS (by rfl))) mr_nil))) (mss_cons (ms_if (mt_cmp (op_eqM hr.units) os_eq (me_var (i := 4)) (me_gint c.v_TUPLE (by rfl)) (nomark _)) (mss_one (ms_expr (me_append (me_var (i := 1)) (me_tup (ma_cons (me_var (i := 5)) (ma_cons (me_alloc (me_lst ma_nil)) ma_nil)))))) (mss_cons (ms_expr (me_append (me_ix (me_ix (me_var (i := 1)) (me_neg me_int)) me_int) (me_fn (F_read_bare c) hr (by decide) (by rfl) takesC (ma_cons (me_var (i := 0)) (ma_cons (me_var (i := 4)) (ma_cons (me_var (i := 5)) (ma_cons (me_var (i := 2)) ma_nil))))))) (mss_one (ms_augAdd (i := 2) (me_if (mt_cmp (op_eqM hr.units) os_eq (me_var (i := 4)) (me_gint c.v_TEXT (by rfl)) (nomark _)) (me_var (i := 5)) me_int) nd)))) (mss_one (ms_while owns (mt_w (mw_and (mt_cmp or_gt os_gt (me_len (me_var (i := 1)) (by rfl) c.g_len) me_int (nomark _)) (mw_and1 (mt_cmp (op_eqM hr.units) os_eq (me_len (me_ix (me_ix (me_var (i := 1)) (me_neg me_int)) me_int) (by rfl) c.g_len) (me_ix (me_ix (me_var (i := 1)) (me_neg me_int)) me_int) (nomark _))))) (mss_cons (ms_set (i := 6) (me_ix (me_pop (me_var (i := 1))) me_int) nd) (mss_one (ms_expr (me_append (me_ix (me_ix (me_var (i := 1)) (me_neg me_int)) me_int) (me_tuple (me_var (i := 6)) (by rfl) c.g_tuple))))))))))) (mss_cons (ms_if (mt_cmp or_lt os_lt (me_var (i := 2)) (me_len (me_var (i := 0)) (by rfl) c.g_len) (nomark _)) (mss_one (ms_raise c.x_BadBytes.xm (hr.mono (by decide)) (by rfl) takesC (by rfl) (me_var (i := 2)))) mss_nil) (mss_one (ms_ret (me_ix (me_ix (me_ix (me_var (i := 1)) me_int) me_int) me_int))))))
theorem sc__law_box : FnScope ["script"] ["script"] (defScope (tp 30)) := sc_of (by decide +kernel)
def b__law_box : S → Res Out := (mRet (mAlloc (mLst (mACons (mAlloc (mFn1 fList (mSlice (mVar 0) mNoPart (mPart (mC (.int 63)))))) (mACons (mC (.int 0)) (mACons (mBin opAdd (mC (.int 4711)) (mFn1 fLen (mVar 0))) mANil))))))
def f__law_box : Fm := mDef 1 1 b__law_box
theorem F__law_box (c : Fx P K mg) : FnM P w K mg base 1 "_law_box" ["script"] f__law_box := by
  refine fnM (N := ["script"]) (m := b__law_box) c.d__law_box sc__law_box (by decide) (fun _ _ _ _ _ _ us hl => match us, hl with | [_], _ => rfl) fun f cdv A outer s H E hr => ?_
  have nd := (sc__law_box).nd
  exact (mss_one (ms_ret (me_alloc (me_lst (ma_cons (me_alloc (me_list (me_slice (me_var (i := 0)) mo_none (mo_some me_int)) (by rfl) c.g_list)) (ma_cons me_int (ma_cons (me_add me_int (me_len (me_var (i := 0)) (by rfl) c.g_len)) ma_nil)))))))
theorem sc__law_load : FnScope ["box", "cells", "first", "second", "cell", "size"] ["box"] (defScope (tp 31)) := sc_of (by decide +kernel)
def b__law_load : S → Res Out := (mSeq (mSet 1 (mBin opIx (mVar 0) (mC (.int 0)))) (mSeq (mIfS (mBl (mBin opGt (mFn1 fLen (mVar 1)) (mC (.int 0)))) (mSeq (mSet 4 (mFn1 fInt (mLm1 fPopAt (mVar 1) (mC (.int 0))))) (mSeq (mSet 5 (mIf (mBl (mBin opGe (mVar 4) (mC (.int 0)))) (mBin opMul (mC (.int 2)) (mVar 4)) (mBin opSub (mBin opMul (mFn1 fNeg (mC (.int 2))) (mVar 4)) (mC (.int 1))))) (mSeq (mIfS (mBl (mBin opGe (mVar 5) (mC (.int 1000000000000000000)))) (mRet (mVar 5)) mNx) (mSetIx (mBin opMod (mFn1 fInt (mBin opAdd (mBin opAdd (mBin opMul (mBin opIx (mVar 0) (mC (.int 2))) (mC (.int 69621))) (mBin opMul (mVar 5) (mC (.int 48271)))) (mC (.int 11)))) (mC (.int 2147483647))) (mVar 0) (mC (.int 2)))))) mNx) (mSeq (mSet 2 (mBin opMod (mFn1 fInt (mBin opAdd (mBin opMul (mBin opIx (mVar 0) (mC (.int 2))) (mC (.int 48271))) (mC (.int 17)))) (mC (.int 2147483629)))) (mSeq (mSet 3 (mBin opMod (mFn1 fInt (mBin opAdd (mBin opMul (mVar 2) (mC (.int 69621))) (mC (.int 5)))) (mC (.int 2147483587)))) (mSeq (mSetIx (mBin opMod (mFn1 fInt (mBin opAdd (mBin opMul (mVar 3) (mC (.int 40692))) (mC (.int 3)))) (mC (.int 2147483563))) (mVar 0) (mC (.int 2))) (mRet (mBin opAdd (mBin opAdd (mBin opMul (mVar 2) (mC (.int 4611686014132420609))) (mBin opMul (mVar 3) (mC (.int 2147483647)))) (mBin opIx (mVar 0) (mC (.int 2))))))))))
def f__law_load : Fm := mDef 1 6 b__law_load
theorem F__law_load (c : Fx P K mg) : FnM P w K mg base 1 "_law_load" ["box"] f__law_load := by
  refine fnM (N := ["box", "cells", "first", "second", "cell", "size"]) (m := b__law_load) c.d__law_load sc__law_load (by decide) (fun _ _ _ _ _ _ us hl => match us, hl with | [_], _ => rfl) fun f cdv A outer s H E hr => ?_
  have nd := (sc__law_load).nd
  exact (mss_cons (ms_set (i := 1) (me_ix (me_var (i := 0)) me_int) nd) (mss_cons (ms_if (mt_cmp or_gt os_gt (me_len (me_var (i := 1)) (by rfl) c.g_len) me_int (nomark _)) (mss_cons (ms_set (i := 4) (me_toInt (me_popAt (me_var (i := 1)) me_int) (by rfl) c.g_int) nd) (mss_cons (ms_set (i := 5) (me_if (mt_cmp or_ge os_ge (me_var (i := 4)) me_int (nomark _)) (me_mul me_int (me_var (i := 4))) (me_sub (me_mul (me_neg me_int) (me_var (i := 4))) me_int)) nd) (mss_cons (ms_if (mt_cmp or_ge os_ge (me_var (i := 5)) me_int (nomark _)) (mss_one (ms_ret (me_var (i := 5)))) mss_nil) (mss_one (ms_setIx (me_mod (me_toInt (me_add (me_add (me_mul (me_ix (me_var (i := 0)) me_int) me_int) (me_mul (me_var (i := 5)) me_int)) me_int) (by rfl) c.g_int) me_int) (me_var (i := 0)) me_int))))) mss_nil) (mss_cons (ms_set (i := 2) (me_mod (me_toInt (me_add (me_mul (me_ix (me_var (i := 0)) me_int) me_int) me_int) (by rfl) c.g_int) me_int) nd) (mss_cons (ms_set (i := 3) (me_mod (me_toInt (me_add (me_mul (me_var (i := 2)) me_int) me_int) (by rfl) c.g_int) me_int) nd) (mss_cons (ms_setIx (me_mod (me_toInt (me_add (me_mul (me_var (i := 3)) me_int) me_int) (by rfl) c.g_int) me_int) (me_var (i := 0)) me_int) (mss_one (ms_ret (me_add (me_add (me_mul (me_var (i := 2)) me_int) (me_mul (me_var (i := 3)) me_int)) (me_ix (me_var (i := 0)) me_int)))))))))
theorem sc__law_draw : FnScope ["box", "many", "digit"] ["box", "many"] (defScope (tp 32)) := sc_of (by decide +kernel)
def b__law_draw : S → Res Out := (mSeq (mIfS (mBl (mBin opLt (mBin opIx (mVar 0) (mC (.int 1))) (mVar 1))) (mSetIx (mCall f__law_load (mACons (mVar 0) mANil)) (mVar 0) (mC (.int 1))) mNx) (mSeq (mSet 2 (mBin opMod (mFn1 fInt (mBin opIx (mVar 0) (mC (.int 1)))) (mVar 1))) (mSeq (mSetIx (mBin opFdiv (mBin opIx (mVar 0) (mC (.int 1))) (mVar 1)) (mVar 0) (mC (.int 1))) (mRet (mVar 2)))))
def f__law_draw : Fm := mDef 2 3 b__law_draw
theorem F__law_draw (c : Fx P K mg) : FnM P w K mg base 2 "_law_draw" ["box", "many"] f__law_draw := by
  refine fnM (N := ["box", "many", "digit"]) (m := b__law_draw) c.d__law_draw sc__law_draw (by decide) (fun _ _ _ _ _ _ us hl => match us, hl with | [_, _], _ => rfl) fun f cdv A outer s H E hr => ?_
  have nd := (sc__law_draw).nd
  exact (mss_cons (ms_if (mt_cmp or_lt os_lt (me_ix (me_var (i := 0)) me_int) (me_var (i := 1)) (nomark _)) (mss_one (ms_setIx (me_fn (F__law_load c) hr (by decide) (by rfl) takesC (ma_cons (me_var (i := 0)) ma_nil)) (me_var (i := 0)) me_int)) mss_nil) (mss_cons (ms_set (i := 2) (me_mod (me_toInt (me_ix (me_var (i := 0)) me_int) (by rfl) c.g_int) (me_var (i := 1))) nd) (mss_cons (ms_setIx (me_fdiv (me_ix (me_var (i := 0)) me_int) (me_var (i := 1))) (me_var (i := 0)) me_int) (mss_one (ms_ret (me_var (i := 2)))))))
theorem sc__law_same : FnScope ["a", "b", "k"] ["a", "b"] (defScope (tp 33)) := sc_of (by decide +kernel)
def e__law_same_1 (fself : Fm) : M := (mCall fself (mACons (mBin opIx (mVar 0) (mVar 2)) (mACons (mBin opIx (mVar 1) (mVar 2)) mANil)))
def b__law_same (fself : Fm) : S → Res Out := (mSeq (mIfS (mOrT (mAndT (mTru (mFn1 (fIsi .tup) (mVar 0))) (mTru (mFn1 (fIsi .tup) (mVar 1)))) (mAndT (mTru (mFn1 (fIsi .lst) (mVar 0))) (mTru (mFn1 (fIsi .lst) (mVar 1))))) (mRet (mAndV (mBin (opEq false) (mFn1 fLen (mVar 0)) (mFn1 fLen (mVar 1))) (mFn1 fAll (mComp [2] (iRange1 (mACons (mFn1 fLen (mVar 0)) mANil)) (tgName 2) mYes (e__law_same_1 fself))))) mNx) (mSeq (mIfS (mOrT (mTru (mFn1 (fIsi .bool) (mVar 0))) (mTru (mFn1 (fIsi .bool) (mVar 1)))) (mRet (mAndV (mFn1 (fIsi .bool) (mVar 0)) (mAndV (mFn1 (fIsi .bool) (mVar 1)) (mBin (opEq false) (mVar 0) (mVar 1))))) mNx) (mSeq (mIfS (mOrT (mAndT (mTru (mFn1 (fIsi .int) (mVar 0))) (mTru (mFn1 (fIsi .int) (mVar 1)))) (mAndT (mTru (mFn1 (fIsi .str) (mVar 0))) (mTru (mFn1 (fIsi .str) (mVar 1))))) (mRet (mBin (opEq false) (mVar 0) (mVar 1))) mNx) (mRet (mAndV (mBin (opIsN false) (mVar 0) (mC .non)) (mBin (opIsN false) (mVar 1) (mC .non)))))))
def f__law_same : Nat → Fm
  | 0 => mDef 2 3 fun _ => .stuck
  | k + 1 => mDef 2 3 (b__law_same (f__law_same k))
theorem F__law_same (c : Fx P K mg) : ∀ k : Nat, FnM P w K mg base (1 + k) "_law_same" ["a", "b"] (f__law_same k)
  | 0 => fnM (N := ["a", "b", "k"]) (k := 0) c.d__law_same sc__law_same (by decide) (fun _ _ _ _ _ _ us hl => match us, hl with | [_, _], _ => rfl) fun f cdv A outer s H E hr => mss_stuck
  | k + 1 => by
    have Fself := F__law_same c k
    refine fnM (N := ["a", "b", "k"]) (k := 1 + k) (m := b__law_same (f__law_same k)) c.d__law_same sc__law_same (by decide) (fun _ _ _ _ _ _ us hl => match us, hl with | [_, _], _ => rfl) fun f cdv A outer s H E hr => ?_
    have nd := (sc__law_same).nd
    exact (mss_cons (ms_if (mt_w (mw_or (mt_w (mw_and (mt_val (me_isi (T := .tup) (me_var (i := 0)) (by rfl) c.g_isinstance (by rfl) c.g_tuple (by decide +kernel))) (mw_and1 (mt_val (me_isi (T := .tup) (me_var (i := 1)) (by rfl) c.g_isinstance (by rfl) c.g_tuple (by decide +kernel)))))) (mw_or1 (mt_w (mw_and (mt_val (me_isi (T := .lst) (me_var (i := 0)) (by rfl) c.g_isinstance (by rfl) c.g_list (by decide +kernel))) (mw_and1 (mt_val (me_isi (T := .lst) (me_var (i := 1)) (by rfl) c.g_isinstance (by rfl) c.g_list (by decide +kernel))))))))) (mss_one (ms_ret (me_and (me_eq hr.units (me_len (me_var (i := 0)) (by rfl) c.g_len) (me_len (me_var (i := 1)) (by rfl) c.g_len)) (me_one (me_all (by rfl) (me_comp (by rfl) nd (mi_range1 (ma_cons (me_len (me_var (i := 0)) (by rfl) c.g_len) ma_nil) (by rfl) c.g_range) (blk_of (own := [("k", 2)]) (by rfl)) mgk_name (by decide) (fun _ _ _ _ _ => (mg_name nd).pg) (fun _ _ _ _ _ => mts_nil) (fun _ _ _ _ _ => (me_fn Fself hr (by omega) (by rfl) takesB (ma_cons (me_ix (me_var (i := 0)) (me_var (i := 2))) (ma_cons (me_ix (me_var (i := 1)) (me_var (i := 2))) ma_nil))))) (by rfl) c.g_all))))) mss_nil) (mss_cons (ms_if (mt_w (mw_or (mt_val (me_isi (T := .bool) (me_var (i := 0)) (by rfl) c.g_isinstance (by rfl) c.g_bool (by decide +kernel))) (mw_or1 (mt_val (me_isi (T := .bool) (me_var (i := 1)) (by rfl) c.g_isinstance (by rfl) c.g_bool (by decide +kernel)))))) (mss_one (ms_ret (me_and (me_isi (T := .bool) (me_var (i := 0)) (by rfl) c.g_isinstance (by rfl) c.g_bool (by decide +kernel)) (me_and (me_isi (T := .bool) (me_var (i := 1)) (by rfl) c.g_isinstance (by rfl) c.g_bool (by decide +kernel)) (me_one (me_eq hr.units (me_var (i := 0)) (me_var (i := 1)))))))) mss_nil) (mss_cons (ms_if (mt_w (mw_or (mt_w (mw_and (mt_val (me_isi (T := .int) (me_var (i := 0)) (by rfl) c.g_isinstance (by rfl) c.g_int (by decide +kernel))) (mw_and1 (mt_val (me_isi (T := .int) (me_var (i := 1)) (by rfl) c.g_isinstance (by rfl) c.g_int (by decide +kernel)))))) (mw_or1 (mt_w (mw_and (mt_val (me_isi (T := .str) (me_var (i := 0)) (by rfl) c.g_isinstance (by rfl) c.g_str (by decide +kernel))) (mw_and1 (mt_val (me_isi (T := .str) (me_var (i := 1)) (by rfl) c.g_isinstance (by rfl) c.g_str (by decide +kernel))))))))) (mss_one (ms_ret (me_eq hr.units (me_var (i := 0)) (me_var (i := 1))))) mss_nil) (mss_one (ms_ret (me_and (me_isN (me_var (i := 0))) (me_one (me_isN (me_var (i := 1))))))))))
theorem sc__law_number : FnScope ["number", "groups"] ["number"] (defScope (tp 34)) := sc_of (by decide +kernel)
def t__law_number_1 : S → Res Bool := (mBl (mBin opGt (mVar 0) (mC (.int 127))))
def l__law_number_2 : S → Res Out := (mSeq (mSet 0 (mBin opFdiv (mVar 0) (mC (.int 128)))) (mSet 1 (mBin opAdd (mLst (mACons (mBin opSub (mVar 0) (mBin opMul (mBin opFdiv (mVar 0) (mC (.int 128))) (mC (.int 128)))) mANil)) (mVar 1))))
def b__law_number : S → Res Out := (mSeq (mSet 1 (mLst (mACons (mBin opSub (mVar 0) (mBin opMul (mBin opFdiv (mVar 0) (mC (.int 128))) (mC (.int 128)))) mANil))) (mSeq (mWhile t__law_number_1 l__law_number_2) (mRet (mBin opAdd (mSlice (mVar 1) mNoPart (mPart (mFn1 fNeg (mC (.int 1))))) (mLst (mACons (mBin opAdd (mBin opIx (mVar 1) (mFn1 fNeg (mC (.int 1)))) (mC (.int 128))) mANil))))))
def f__law_number : Fm := mDef 1 2 b__law_number
theorem F__law_number (c : Fx P K mg) : FnM P w K mg base 1 "_law_number" ["number"] f__law_number := by
  refine fnM (N := ["number", "groups"]) (m := b__law_number) c.d__law_number sc__law_number (by decide) (fun _ _ _ _ _ _ us hl => match us, hl with | [_], _ => rfl) fun f cdv A outer s H E hr => ?_
  have nd := (sc__law_number).nd
  exact (mss_cons (ms_set (i := 1) (me_lst (ma_cons (me_sub (me_var (i := 0)) (me_mul (me_fdiv (me_var (i := 0)) me_int) me_int)) ma_nil)) nd) (mss_cons (ms_while owns (mt_cmp or_gt os_gt (me_var (i := 0)) me_int (nomark _)) (mss_cons (ms_set (i := 0) (me_fdiv (me_var (i := 0)) me_int) nd) (mss_one (ms_set (i := 1) (me_add (me_lst (ma_cons (me_sub (me_var (i := 0)) (me_mul (me_fdiv (me_var (i := 0)) me_int) me_int)) ma_nil)) (me_var (i := 1))) nd)))) (mss_one (ms_ret (me_add (me_slice (me_var (i := 1)) mo_none (mo_some (me_neg me_int))) (me_lst (ma_cons (me_add (me_ix (me_var (i := 1)) (me_neg me_int)) me_int) ma_nil)))))))
theorem sc__law_head : FnScope ["value"] ["value"] (defScope (tp 35)) := sc_of (by decide +kernel)
def b__law_head : S → Res Out := (mSeq (mIfS (mOrT (mBl (mBin (opIsN false) (mVar 0) (mC .non))) (mTru (mFn1 (fIsi .bool) (mVar 0)))) (mRet (mIf (mBl (mBin (opIsN false) (mVar 0) (mC .non))) (mC (.int 4)) (mIf (mTru (mVar 0)) (mC (.int 14)) (mC (.int 9))))) mNx) (mSeq (mIfS (mTru (mFn1 (fIsi .int) (mVar 0))) (mRet (mIf (mBl (mBin opGe (mVar 0) (mC (.int 0)))) (mBin opMul (mC (.int 5)) (mVar 0)) (mBin opAdd (mBin opMul (mC (.int 5)) (mBin opSub (mFn1 fNeg (mC (.int 1))) (mVar 0))) (mC (.int 1))))) mNx) (mRet (mBin opAdd (mBin opMul (mC (.int 5)) (mFn1 fLen (mVar 0))) (mIf (mTru (mFn1 (fIsi .str) (mVar 0))) (mC (.int 2)) (mC (.int 3)))))))
def f__law_head : Fm := mDef 1 1 b__law_head
theorem F__law_head (c : Fx P K mg) : FnM P w K mg base 1 "_law_head" ["value"] f__law_head := by
  refine fnM (N := ["value"]) (m := b__law_head) c.d__law_head sc__law_head (by decide) (fun _ _ _ _ _ _ us hl => match us, hl with | [_], _ => rfl) fun f cdv A outer s H E hr => ?_
  have nd := (sc__law_head).nd
  exact (mss_cons (ms_if (mt_w (mw_or (mt_cmp op_isN os_isN (me_var (i := 0)) me_non (nomark _)) (mw_or1 (mt_val (me_isi (T := .bool) (me_var (i := 0)) (by rfl) c.g_isinstance (by rfl) c.g_bool (by decide +kernel)))))) (mss_one (ms_ret (me_if (mt_cmp op_isN os_isN (me_var (i := 0)) me_non (nomark _)) me_int (me_if (mt_val (me_var (i := 0))) me_int me_int)))) mss_nil) (mss_cons (ms_if (mt_val (me_isi (T := .int) (me_var (i := 0)) (by rfl) c.g_isinstance (by rfl) c.g_int (by decide +kernel))) (mss_one (ms_ret (me_if (mt_cmp or_ge os_ge (me_var (i := 0)) me_int (nomark _)) (me_mul me_int (me_var (i := 0))) (me_add (me_mul me_int (me_sub (me_neg me_int) (me_var (i := 0)))) me_int)))) mss_nil) (mss_one (ms_ret (me_add (me_mul me_int (me_len (me_var (i := 0)) (by rfl) c.g_len)) (me_if (mt_val (me_isi (T := .str) (me_var (i := 0)) (by rfl) c.g_isinstance (by rfl) c.g_str (by decide +kernel))) me_int me_int))))))
theorem sc__law_pack : FnScope ["value", "got", "part", "sign"] ["value"] (defScope (tp 36)) := sc_of (by decide +kernel)
def l__law_pack_1 (fself : Fm) : S → Res Out := (mSet 1 (mBin opAdd (mVar 1) (mCall fself (mACons (mVar 2) mANil))))
def e__law_pack_2 : M := (mSm1 fIndexS (mC (.str " ,-.0123456789abcdefghijklmnopqrstuvwxyz")) (mVar 3))
def b__law_pack (fself : Fm) : S → Res Out := (mSeq (mSet 1 (mCall f__law_number (mACons (mCall f__law_head (mACons (mVar 0) mANil)) mANil))) (mSeq (mIfS (mTru (mFn1 (fIsi .str) (mVar 0))) (mSet 1 (mBin opAdd (mVar 1) (mComp [3] (iStrM (mVar 0)) (tgName 3) mYes e__law_pack_2))) mNx) (mSeq (mIfS (mTru (mFn1 (fIsi .tup) (mVar 0))) (mFor (iSeq (mVar 0)) (tgName 2) (l__law_pack_1 fself)) mNx) (mRet (mVar 1)))))
def f__law_pack : Nat → Fm
  | 0 => mDef 1 4 fun _ => .stuck
  | k + 1 => mDef 1 4 (b__law_pack (f__law_pack k))
theorem F__law_pack (c : Fx P K mg) : ∀ k : Nat, FnM P w K mg base (1 + k) "_law_pack" ["value"] (f__law_pack k)
  | 0 => fnM (N := ["value", "got", "part", "sign"]) (k := 0) c.d__law_pack sc__law_pack (by decide) (fun _ _ _ _ _ _ us hl => match us, hl with | [_], _ => rfl) fun f cdv A outer s H E hr => mss_stuck
  | k + 1 => by
    have Fself := F__law_pack c k
    refine fnM (N := ["value", "got", "part", "sign"]) (k := 1 + k) (m := b__law_pack (f__law_pack k)) c.d__law_pack sc__law_pack (by decide) (fun _ _ _ _ _ _ us hl => match us, hl with | [_], _ => rfl) fun f cdv A outer s H E hr => ?_
    have nd := (sc__law_pack).nd
    exact (mss_cons (ms_set (i := 1) (me_fn (F__law_number c) hr (by omega) (by rfl) takesC (ma_cons (me_fn (F__law_head c) hr (by omega) (by rfl) takesC (ma_cons (me_var (i := 0)) ma_nil)) ma_nil)) nd) (mss_cons (ms_if (mt_val (me_isi (T := .str) (me_var (i := 0)) (by rfl) c.g_isinstance (by rfl) c.g_str (by decide +kernel))) (mss_one (ms_set (i := 1) (me_add (me_var (i := 1)) (me_comp (by rfl) nd (mi_str (me_var (i := 0))) (blk_of (own := [("sign", 3)]) (by rfl)) mgk_name (by decide) (fun _ _ _ _ _ => (mg_name nd).pg) (fun _ _ _ _ _ => mts_nil) (fun _ _ _ _ _ => (me_indexS me_str (me_var (i := 3)))))) nd)) mss_nil) (mss_cons (ms_if (mt_val (me_isi (T := .tup) (me_var (i := 0)) (by rfl) c.g_isinstance (by rfl) c.g_tuple (by decide +kernel))) (mss_one (ms_for owns (by rfl) (mi_seq (me_var (i := 0))) (mg_name nd) (mss_one (ms_set (i := 1) (me_add (me_var (i := 1)) (me_fn Fself hr (by omega) (by rfl) takesC (ma_cons (me_var (i := 2)) ma_nil))) nd)))) mss_nil) (mss_one (ms_ret (me_var (i := 1)))))))
theorem sc__law_value : FnScope ["box", "deep", "which", "number", "text", "step", "k"] ["box", "deep"] (defScope (tp 37)) := sc_of (by decide +kernel)
def e__law_value_1 (fself : Fm) : M := (mCall fself (mACons (mVar 0) (mACons (mBin opSub (mVar 1) (mC (.int 1))) mANil)))
def l__law_value_2 : S → Res Out := (mSet 4 (mBin opAdd (mVar 4) (mBin opIx (mC (.str " ,-.0123456789abcdefghijklmnopqrstuvwxyz")) (mCall f__law_draw (mACons (mVar 0) (mACons (mC (.int 40)) mANil))))))
def b__law_value (fself : Fm) : S → Res Out := (mSeq (mSet 2 (mCall f__law_draw (mACons (mVar 0) (mACons (mIf (mBl (mBin opGt (mVar 1) (mC (.int 0)))) (mC (.int 7)) (mC (.int 5))) mANil)))) (mSeq (mIfS (mBl (mBin opLt (mVar 2) (mC (.int 2)))) (mRet (mBin opIx (mTup (mACons (mC .non) (mACons (mC (.bl true)) (mACons (mC (.bl false)) mANil)))) (mCall f__law_draw (mACons (mVar 0) (mACons (mC (.int 3)) mANil))))) mNx) (mSeq (mIfS (mBl (mBin opLt (mVar 2) (mC (.int 4)))) (mSeq (mSet 3 (mCall f__law_draw (mACons (mVar 0) (mACons (mBin opIx (mTup (mACons (mC (.int 2)) (mACons (mC (.int 129)) (mACons (mC (.int 20000)) (mACons (mC (.int 9999999)) mANil))))) (mCall f__law_draw (mACons (mVar 0) (mACons (mC (.int 4)) mANil)))) mANil)))) (mSeq (mSet 3 (mIf (mBl (mBin (opEq false) (mCall f__law_draw (mACons (mVar 0) (mACons (mC (.int 9)) mANil))) (mC (.int 0)))) (mBin opAdd (mBin opMul (mVar 3) (mC (.int 36893488147419103232))) (mC (.int 5))) (mVar 3))) (mRet (mIf (mBl (mBin (opEq false) (mCall f__law_draw (mACons (mVar 0) (mACons (mC (.int 2)) mANil))) (mC (.int 0)))) (mFn1 fNeg (mVar 3)) (mVar 3))))) mNx) (mSeq (mIfS (mBl (mBin (opEq false) (mVar 2) (mC (.int 4)))) (mSeq (mSet 4 (mC (.str ""))) (mSeq (mFor (iRange1 (mACons (mIf (mBl (mBin opGt (mCall f__law_draw (mACons (mVar 0) (mACons (mC (.int 9)) mANil))) (mC (.int 0)))) (mCall f__law_draw (mACons (mVar 0) (mACons (mC (.int 4)) mANil))) (mC (.int 60))) mANil)) (tgName 5) l__law_value_2) (mRet (mVar 4)))) mNx) (mRet (mFn1 fTuple (mComp [6] (iRange1 (mACons (mCall f__law_draw (mACons (mVar 0) (mACons (mC (.int 4)) mANil))) mANil)) (tgName 6) mYes (e__law_value_1 fself))))))))
def f__law_value : Nat → Fm
  | 0 => mDef 2 7 fun _ => .stuck
  | k + 1 => mDef 2 7 (b__law_value (f__law_value k))
theorem F__law_value (c : Fx P K mg) : ∀ k : Nat, FnM P w K mg base (2 + k) "_law_value" ["box", "deep"] (f__law_value k)
  | 0 => fnM (N := ["box", "deep", "which", "number", "text", "step", "k"]) (k := 1) c.d__law_value sc__law_value (by decide) (fun _ _ _ _ _ _ us hl => match us, hl with | [_, _], _ => rfl) fun f cdv A outer s H E hr => mss_stuck
  | k + 1 => by
    have Fself := F__law_value c k
    refine fnM (N := ["box", "deep", "which", "number", "text", "step", "k"]) (k := 2 + k) (m := b__law_value (f__law_value k)) c.d__law_value sc__law_value (by decide) (fun _ _ _ _ _ _ us hl => match us, hl with | [_, _], _ => rfl) fun f cdv A outer s H E hr => ?_
    have nd := (sc__law_value).nd
    exact (mss_cons (ms_set (i := 2) (me_fn (F__law_draw c) hr (by omega) (by rfl) takesC (ma_cons (me_var (i := 0)) (ma_cons (me_if (mt_cmp or_gt os_gt (me_var (i := 1)) me_int (nomark _)) me_int me_int) ma_nil))) nd) (mss_cons (ms_if (mt_cmp or_lt os_lt (me_var (i := 2)) me_int (nomark _)) (mss_one (ms_ret (me_ix (me_tup (ma_cons me_non (ma_cons me_bl (ma_cons me_bl ma_nil)))) (me_fn (F__law_draw c) hr (by omega) (by rfl) takesC (ma_cons (me_var (i := 0)) (ma_cons me_int ma_nil)))))) mss_nil) (mss_cons (ms_if (mt_cmp or_lt os_lt (me_var (i := 2)) me_int (nomark _)) (mss_cons (ms_set (i := 3) (me_fn (F__law_draw c) hr (by omega) (by rfl) takesC (ma_cons (me_var (i := 0)) (ma_cons (me_ix (me_tup (ma_cons me_int (ma_cons me_int (ma_cons me_int (ma_cons me_int ma_nil))))) (me_fn (F__law_draw c) hr (by omega) (by rfl) takesC (ma_cons (me_var (i := 0)) (ma_cons me_int ma_nil)))) ma_nil))) nd) (mss_cons (ms_set (i := 3) (me_if (mt_cmp (op_eqM hr.units) os_eq (me_fn (F__law_draw c) hr (by omega) (by rfl) takesC (ma_cons (me_var (i := 0)) (ma_cons me_int ma_nil))) me_int (nomark _)) (me_add (me_mul (me_var (i := 3)) me_int) me_int) (me_var (i := 3))) nd) (mss_one (ms_ret (me_if (mt_cmp (op_eqM hr.units) os_eq (me_fn (F__law_draw c) hr (by omega) (by rfl) takesC (ma_cons (me_var (i := 0)) (ma_cons me_int ma_nil))) me_int (nomark _)) (me_neg (me_var (i := 3))) (me_var (i := 3))))))) mss_nil) (mss_cons (ms_if (mt_cmp (op_eqM hr.units) os_eq (me_var (i := 2)) me_int (nomark _)) (mss_cons (ms_set (i := 4) me_str nd) (mss_cons (ms_for owns (by rfl) (mi_range1 (ma_cons (me_if (mt_cmp or_gt os_gt (me_fn (F__law_draw c) hr (by omega) (by rfl) takesC (ma_cons (me_var (i := 0)) (ma_cons me_int ma_nil))) me_int (nomark _)) (me_fn (F__law_draw c) hr (by omega) (by rfl) takesC (ma_cons (me_var (i := 0)) (ma_cons me_int ma_nil))) me_int) ma_nil) (by rfl) c.g_range) (mg_name nd) (mss_one (ms_set (i := 4) (me_add (me_var (i := 4)) (me_ix me_str (me_fn (F__law_draw c) hr (by omega) (by rfl) takesC (ma_cons (me_var (i := 0)) (ma_cons me_int ma_nil))))) nd))) (mss_one (ms_ret (me_var (i := 4)))))) mss_nil) (mss_one (ms_ret (me_tuple (me_comp (by rfl) nd (mi_range1 (ma_cons (me_fn (F__law_draw c) hr (by omega) (by rfl) takesC (ma_cons (me_var (i := 0)) (ma_cons me_int ma_nil))) ma_nil) (by rfl) c.g_range) (blk_of (own := [("k", 6)]) (by rfl)) mgk_name (by decide) (fun _ _ _ _ _ => (mg_name nd).pg) (fun _ _ _ _ _ => mts_nil) (fun _ _ _ _ _ => (me_fn Fself hr (by omega) (by rfl) takesB (ma_cons (me_var (i := 0)) (ma_cons (me_sub (me_var (i := 1)) me_int) ma_nil))))) (by rfl) c.g_tuple)))))))
theorem sc__law_good : FnScope ["data", "step", "need", "at", "head", "kind", "size", "k"] ["data"] (defScope (tp 38)) := sc_of (by decide +kernel)
def l__law_good_1 : S → Res Out := (mIfS (mBl (mBin opGt (mBin opIx (mVar 0) (mVar 7)) (mC (.int 39)))) (mRet (mTup (mACons (mVar 7) (mACons (mC (.bl false)) mANil)))) mNx)
def t__law_good_2 : S → Res Bool := (mAndT (mBl (mBin opLt (mVar 3) (mFn1 fLen (mVar 0)))) (mBl (mBin opLt (mBin opIx (mVar 0) (mVar 3)) (mC (.int 128)))))
def l__law_good_3 : S → Res Out := (mParN [4, 3] (mRCons (mBin opAdd (mBin opMul (mVar 4) (mC (.int 128))) (mBin opIx (mVar 0) (mVar 3))) (mRCons (mBin opAdd (mVar 3) (mC (.int 1))) mRNil)))
def l__law_good_4 : S → Res Out := (mSeq (mIfS (mOrT (mBl (mBin (opEq false) (mVar 2) (mC (.int 0)))) (mBl (mBin opGe (mVar 3) (mFn1 fLen (mVar 0))))) (mRet (mTup (mACons (mVar 3) (mACons (mAndV (mBin (opEq false) (mVar 2) (mC (.int 0))) (mBin (opEq false) (mVar 3) (mFn1 fLen (mVar 0)))) mANil)))) mNx) (mSeq (mIfS (mBl (mBin (opEq false) (mBin opIx (mVar 0) (mVar 3)) (mC (.int 0)))) (mRet (mTup (mACons (mVar 3) (mACons (mC (.bl false)) mANil)))) mNx) (mSeq (mSet 4 (mC (.int 0))) (mSeq (mWhile t__law_good_2 l__law_good_3) (mSeq (mIfS (mBl (mBin opGe (mVar 3) (mFn1 fLen (mVar 0)))) (mRet (mTup (mACons (mVar 3) (mACons (mC (.bl false)) mANil)))) mNx) (mSeq (mParN [4, 3] (mRCons (mBin opSub (mBin opAdd (mBin opMul (mVar 4) (mC (.int 128))) (mBin opIx (mVar 0) (mVar 3))) (mC (.int 128))) (mRCons (mBin opAdd (mVar 3) (mC (.int 1))) mRNil))) (mSeq (mParN [5, 6] (mRCons (mBin opSub (mVar 4) (mBin opMul (mBin opFdiv (mVar 4) (mC (.int 5))) (mC (.int 5)))) (mRCons (mBin opFdiv (mVar 4) (mC (.int 5))) mRNil))) (mSeq (mIfS (mAndT (mBl (mBin (opEq false) (mVar 5) (mC (.int 4)))) (mBl (mBin opGt (mVar 6) (mC (.int 2))))) (mRet (mTup (mACons (mBin opSub (mVar 3) (mC (.int 1))) (mACons (mC (.bl false)) mANil)))) mNx) (mSeq (mIfS (mBl (mBin (opEq false) (mVar 5) (mC (.int 2)))) (mSeq (mFor (iRange2 (mACons (mVar 3) (mACons (mFn2 minI (mACons (mBin opAdd (mVar 3) (mVar 6)) (mACons (mFn1 fLen (mVar 0)) mANil))) mANil))) (tgName 7) l__law_good_1) (mSeq (mIfS (mBl (mBin opGt (mBin opAdd (mVar 3) (mVar 6)) (mFn1 fLen (mVar 0)))) (mRet (mTup (mACons (mFn1 fLen (mVar 0)) (mACons (mC (.bl false)) mANil)))) mNx) (mSet 3 (mBin opAdd (mVar 3) (mVar 6))))) mNx) (mSet 2 (mIf (mBl (mBin (opEq false) (mVar 5) (mC (.int 3)))) (mBin opSub (mBin opAdd (mVar 2) (mVar 6)) (mC (.int 1))) (mBin opSub (mVar 2) (mC (.int 1))))))))))))))
def b__law_good : S → Res Out := (mSeq (mUnp [2, 3] (mTup (mACons (mC (.int 1)) (mACons (mC (.int 0)) mANil)))) (mSeq (mFor (iRange1 (mACons (mBin opAdd (mFn1 fLen (mVar 0)) (mC (.int 2))) mANil)) (tgName 1) l__law_good_4) (mRet (mTup (mACons (mVar 3) (mACons (mC (.bl false)) mANil))))))
def f__law_good : Fm := mDef 1 8 b__law_good
theorem F__law_good (c : Fx P K mg) : FnM P w K mg base 1 "_law_good" ["data"] f__law_good := by
  refine fnM (N := ["data", "step", "need", "at", "head", "kind", "size", "k"]) (m := b__law_good) c.d__law_good sc__law_good (by decide) (fun _ _ _ _ _ _ us hl => match us, hl with | [_], _ => rfl) fun f cdv A outer s H E hr => ?_
  have nd := (sc__law_good).nd
  exact (mss_cons (ms_unp (by rfl) (me_tup (ma_cons me_int (ma_cons me_int ma_nil))) (mgs_cons (i := 2) (mgs_cons (i := 3) mgs_nil nd) nd)) (mss_cons (ms_for owns (by rfl) (mi_range1 (ma_cons (me_add (me_len (me_var (i := 0)) (by rfl) c.g_len) me_int) ma_nil) (by rfl) c.g_range) (mg_name nd) (mss_cons (ms_if (mt_w (mw_or (mt_cmp (op_eqM hr.units) os_eq (me_var (i := 2)) me_int (nomark _)) (mw_or1 (mt_cmp or_ge os_ge (me_var (i := 3)) (me_len (me_var (i := 0)) (by rfl) c.g_len) (nomark _))))) (mss_one (ms_ret (me_tup (ma_cons (me_var (i := 3)) (ma_cons (me_and (me_eq hr.units (me_var (i := 2)) me_int) (me_one (me_eq hr.units (me_var (i := 3)) (me_len (me_var (i := 0)) (by rfl) c.g_len)))) ma_nil))))) mss_nil) (mss_cons (ms_if (mt_cmp (op_eqM hr.units) os_eq (me_ix (me_var (i := 0)) (me_var (i := 3))) me_int (nomark _)) (mss_one (ms_ret (me_tup (ma_cons (me_var (i := 3)) (ma_cons me_bl ma_nil))))) mss_nil) (mss_cons (ms_set (i := 4) me_int nd) (mss_cons (ms_while owns (mt_w (mw_and (mt_cmp or_lt os_lt (me_var (i := 3)) (me_len (me_var (i := 0)) (by rfl) c.g_len) (nomark _)) (mw_and1 (mt_cmp or_lt os_lt (me_ix (me_var (i := 0)) (me_var (i := 3))) me_int (nomark _))))) (mss_one (ms_par (i := 4) (j := 3) (by rfl) nd (mr_cons (me_add (me_mul (me_var (i := 4)) me_int) (me_ix (me_var (i := 0)) (me_var (i := 3)))) (mr_cons (me_add (me_var (i := 3)) me_int) mr_nil))))) (mss_cons (ms_if (mt_cmp or_ge os_ge (me_var (i := 3)) (me_len (me_var (i := 0)) (by rfl) c.g_len) (nomark _)) (mss_one (ms_ret (me_tup (ma_cons (me_var (i := 3)) (ma_cons me_bl ma_nil))))) mss_nil) (mss_cons (ms_par (i := 4) (j := 3) (by rfl) nd (mr_cons (me_sub (me_add (me_mul (me_var (i := 4)) me_int) (me_ix (me_var (i := 0)) (me_var (i := 3)))) me_int) (mr_cons (me_add (me_var (i := 3)) me_int) mr_nil))) (mss_cons (ms_par (i := 5) (j := 6) (by rfl) nd (mr_cons (me_sub (me_var (i := 4)) (me_mul (me_fdiv (me_var (i := 4)) me_int) me_int)) (mr_cons (me_fdiv (me_var (i := 4)) me_int) mr_nil))) (mss_cons (ms_if (mt_w (mw_and (mt_cmp (op_eqM hr.units) os_eq (me_var (i := 5)) me_int (nomark _)) (mw_and1 (mt_cmp or_gt os_gt (me_var (i := 6)) me_int (nomark _))))) (mss_one (ms_ret (me_tup (ma_cons (me_sub (me_var (i := 3)) me_int) (ma_cons me_bl ma_nil))))) mss_nil) (mss_cons (ms_if (mt_cmp (op_eqM hr.units) os_eq (me_var (i := 5)) me_int (nomark _)) (mss_cons (ms_for owns (by rfl) (mi_range2 (ma_cons (me_var (i := 3)) (ma_cons (me_min2 (by rfl) (ma_cons (me_add (me_var (i := 3)) (me_var (i := 6))) (ma_cons (me_len (me_var (i := 0)) (by rfl) c.g_len) ma_nil)) (by rfl) c.g_min) ma_nil)) (by rfl) c.g_range) (mg_name nd) (mss_one (ms_if (mt_cmp or_gt os_gt (me_ix (me_var (i := 0)) (me_var (i := 7))) me_int (nomark _)) (mss_one (ms_ret (me_tup (ma_cons (me_var (i := 7)) (ma_cons me_bl ma_nil))))) mss_nil))) (mss_cons (ms_if (mt_cmp or_gt os_gt (me_add (me_var (i := 3)) (me_var (i := 6))) (me_len (me_var (i := 0)) (by rfl) c.g_len) (nomark _)) (mss_one (ms_ret (me_tup (ma_cons (me_len (me_var (i := 0)) (by rfl) c.g_len) (ma_cons me_bl ma_nil))))) mss_nil) (mss_one (ms_set (i := 3) (me_add (me_var (i := 3)) (me_var (i := 6))) nd)))) mss_nil) (mss_one (ms_set (i := 2) (me_if (mt_cmp (op_eqM hr.units) os_eq (me_var (i := 5)) me_int (nomark _)) (me_sub (me_add (me_var (i := 2)) (me_var (i := 6))) me_int) (me_sub (me_var (i := 2)) me_int)) nd)))))))))))) (mss_one (ms_ret (me_tup (ma_cons (me_var (i := 3)) (ma_cons me_bl ma_nil)))))))
theorem sc__law_told : FnScope ["data", "error", "value", "bad"] ["data"] (defScope (tp 39)) := sc_of (by decide +kernel)
def b__law_told : S → Res Out := (mSeq (mUnp [2, 3] (mTup (mACons (mC .non) (mACons (mC .non) mANil)))) (mSeq (mTryX "BadBytes" 1 3 "place" (mSet 2 (mCall f_unpack (mACons (mVar 0) mANil)))) (mRet (mTup (mACons (mVar 2) (mACons (mVar 3) mANil))))))
def f__law_told : Fm := mDef 1 4 b__law_told
theorem F__law_told (c : Fx P K mg) : FnM P w K mg base 7 "_law_told" ["data"] f__law_told := by
  refine fnM (N := ["data", "error", "value", "bad"]) (m := b__law_told) c.d__law_told sc__law_told (by decide) (fun _ _ _ _ _ _ us hl => match us, hl with | [_], _ => rfl) fun f cdv A outer s H E hr => ?_
  have nd := (sc__law_told).nd
  exact (mss_cons (ms_unp (by rfl) (me_tup (ma_cons me_non (ma_cons me_non ma_nil))) (mgs_cons (i := 2) (mgs_cons (i := 3) mgs_nil nd) nd)) (mss_cons (ms_tryX (i := 1) (j := 3) c.x_BadBytes nd takesC (by rfl) (fun W pn xe tk ow => (mss_one (ms_set (i := 2) (me_fn (F_unpack c) hr (by decide) (by rfl) tk (ma_cons (me_var (i := 0)) ma_nil)) nd)))) (mss_one (ms_ret (me_tup (ma_cons (me_var (i := 2)) (ma_cons (me_var (i := 3)) ma_nil)))))))
theorem sc__law_numbers : FnScope ["box", "head", "tail", "step", "gaps", "k", "at", "before", "numbers", "last", "plain", "told"] ["box", "head", "tail"] (defScope (tp 40)) := sc_of (by decide +kernel)
def l__law_numbers_1 : S → Res Out := (mParN [10, 11] (mRCons (mBin opAdd (mVar 10) (mCall f__law_number (mACons (mBin opIx (mVar 8) (mVar 5)) mANil))) (mRCons (mBin opAdd (mVar 11) (mCall f__law_number (mACons (mBin opIx (mVar 4) (mVar 5)) mANil))) mRNil)))
def e__law_numbers_2 : M := (mBin opSub (mBin opSub (mBin opIx (mVar 8) (mVar 5)) (mIf (mBl (mBin opGt (mVar 5) (mC (.int 0)))) (mBin opIx (mVar 8) (mBin opSub (mVar 5) (mC (.int 1)))) (mVar 7))) (mC (.int 1)))
def l__law_numbers_3 : S → Res Out := (mSeq (mSet 9 (mBin opAdd (mBin opAdd (mVar 9) (mC (.int 1))) (mCall f__law_draw (mACons (mVar 0) (mACons (mBin opIx (mTup (mACons (mC (.int 2)) (mACons (mC (.int 200)) (mACons (mC (.int 99999)) mANil)))) (mCall f__law_draw (mACons (mVar 0) (mACons (mC (.int 3)) mANil)))) mANil))))) (mExpr (mLm1 fAppend (mVar 8) (mVar 9))))
def b__law_numbers : S → Res Out := (mSeq (mParN [6, 7] (mRCons (mFn1 fLen (mVar 1)) (mRCons (mBin opSub (mCall f__law_draw (mACons (mVar 0) (mACons (mC (.int 9)) mANil))) (mC (.int 1))) mRNil))) (mSeq (mParN [8, 9] (mRCons (mLst mANil) (mRCons (mVar 7) mRNil))) (mSeq (mFor (iRange1 (mACons (mCall f__law_draw (mACons (mVar 0) (mACons (mC (.int 6)) mANil))) mANil)) (tgName 3) l__law_numbers_3) (mSeq (mSet 4 (mComp [5] (iRange1 (mACons (mFn1 fLen (mVar 8)) mANil)) (tgName 5) mYes e__law_numbers_2)) (mSeq (mParN [10, 11] (mRCons (mLst mANil) (mRCons (mLst mANil) mRNil))) (mSeq (mFor (iRange1 (mACons (mFn1 fLen (mVar 8)) mANil)) (tgName 5) l__law_numbers_1) (mSeq (mIfS (mNotT (mTru (mCall (f__law_same 6) (mACons (mTup (mACons (mCall f_gaps_of (mACons (mVar 8) (mACons (mVar 7) mANil))) (mACons (mCall f_numbers_of (mACons (mVar 4) (mACons (mVar 7) mANil))) (mACons (mCall f_numbers_bytes (mACons (mVar 8) mANil)) (mACons (mCall f_gap_bytes (mACons (mVar 8) (mACons (mVar 7) mANil))) mANil))))) (mACons (mTup (mACons (mVar 4) (mACons (mVar 8) (mACons (mVar 10) (mACons (mVar 11) mANil))))) mANil))))) (mRet (mC (.bl false))) mNx) (mSeq (mIfS (mNotT (mTru (mCall (f__law_same 6) (mACons (mCall f_read_numbers (mACons (mBin opAdd (mBin opAdd (mVar 1) (mFn1 fTuple (mVar 10))) (mVar 2)) (mACons (mVar 6) (mACons (mFn1 fLen (mVar 8)) mANil)))) (mACons (mTup (mACons (mVar 8) (mACons (mBin opAdd (mVar 6) (mFn1 fLen (mVar 10))) mANil))) mANil))))) (mRet (mC (.bl false))) mNx) (mRet (mCall (f__law_same 6) (mACons (mCall f_read_gaps (mACons (mBin opAdd (mBin opAdd (mVar 1) (mFn1 fTuple (mVar 11))) (mVar 2)) (mACons (mVar 6) (mACons (mFn1 fLen (mVar 8)) (mACons (mVar 7) mANil))))) (mACons (mTup (mACons (mVar 8) (mACons (mBin opAdd (mVar 6) (mFn1 fLen (mVar 11))) mANil))) mANil))))))))))))
def f__law_numbers : Fm := mDef 3 12 b__law_numbers
theorem F__law_numbers (c : Fx P K mg) : FnM P w K mg base 8 "_law_numbers" ["box", "head", "tail"] f__law_numbers := by
  refine fnM (N := ["box", "head", "tail", "step", "gaps", "k", "at", "before", "numbers", "last", "plain", "told"]) (m := b__law_numbers) c.d__law_numbers sc__law_numbers (by decide) (fun _ _ _ _ _ _ us hl => match us, hl with | [_, _, _], _ => rfl) fun f cdv A outer s H E hr => ?_
  have nd := (sc__law_numbers).nd
  exact (mss_cons (ms_tupN (by rfl) (mr_cons (me_len (me_var (i := 1)) (by rfl) c.g_len) (mr_cons (me_sub (me_fn (F__law_draw c) hr (by decide) (by rfl) takesC (ma_cons (me_var (i := 0)) (ma_cons me_int ma_nil))) me_int) mr_nil)) (mgs_cons (i := 6) (mgs_cons (i := 7) mgs_nil nd) nd) (by decide)) (mss_cons (ms_tupN (by rfl) (mr_cons (me_lst ma_nil) (mr_cons (me_var (i := 7)) mr_nil)) (mgs_cons (i := 8) (mgs_cons (i := 9) mgs_nil nd) nd) (by decide)) (mss_cons (ms_for owns (by rfl) (mi_range1 (ma_cons (me_fn (F__law_draw c) hr (by decide) (by rfl) takesC (ma_cons (me_var (i := 0)) (ma_cons me_int ma_nil))) ma_nil) (by rfl) c.g_range) (mg_name nd) (mss_cons (ms_set (i := 9) (me_add (me_add (me_var (i := 9)) me_int) (me_fn (F__law_draw c) hr (by decide) (by rfl) takesC (ma_cons (me_var (i := 0)) (ma_cons (me_ix (me_tup (ma_cons me_int (ma_cons me_int (ma_cons me_int ma_nil)))) (me_fn (F__law_draw c) hr (by decide) (by rfl) takesC (ma_cons (me_var (i := 0)) (ma_cons me_int ma_nil)))) ma_nil)))) nd) (mss_one (ms_expr (me_append (me_var (i := 8)) (me_var (i := 9))))))) (mss_cons (ms_setComp (i := 4) (by rfl) nd (mi_range1 (ma_cons (me_len (me_var (i := 8)) (by rfl) c.g_len) ma_nil) (by rfl) c.g_range) (blk_of (own := [("k", 5)]) (by rfl)) mgk_name (by decide) (fun _ _ _ _ _ => (mg_name nd).pg) (fun _ _ _ _ _ => mts_nil) (fun _ _ _ _ _ => (me_sub (me_sub (me_ix (me_var (i := 8)) (me_var (i := 5))) (me_if (mt_cmp or_gt os_gt (me_var (i := 5)) me_int (nomark _)) (me_ix (me_var (i := 8)) (me_sub (me_var (i := 5)) me_int)) (me_var (i := 7)))) me_int))) (mss_cons (ms_par (i := 10) (j := 11) (by rfl) nd (mr_cons (me_lst ma_nil) (mr_cons (me_lst ma_nil) mr_nil))) (mss_cons (ms_for owns (by rfl) (mi_range1 (ma_cons (me_len (me_var (i := 8)) (by rfl) c.g_len) ma_nil) (by rfl) c.g_range) (mg_name nd) (mss_one (ms_par (i := 10) (j := 11) (by rfl) nd (mr_cons (me_add (me_var (i := 10)) (me_fn (F__law_number c) hr (by decide) (by rfl) takesC (ma_cons (me_ix (me_var (i := 8)) (me_var (i := 5))) ma_nil))) (mr_cons (me_add (me_var (i := 11)) (me_fn (F__law_number c) hr (by decide) (by rfl) takesC (ma_cons (me_ix (me_var (i := 4)) (me_var (i := 5))) ma_nil))) mr_nil))))) (mss_cons (ms_if (mt_not (mt_val (me_fn (F__law_same c 6) hr (by decide) (by rfl) takesC (ma_cons (me_tup (ma_cons (me_fn (F_gaps_of c) hr (by decide) (by rfl) takesC (ma_cons (me_var (i := 8)) (ma_cons (me_var (i := 7)) ma_nil))) (ma_cons (me_fn (F_numbers_of c) hr (by decide) (by rfl) takesC (ma_cons (me_var (i := 4)) (ma_cons (me_var (i := 7)) ma_nil))) (ma_cons (me_fn (F_numbers_bytes c) hr (by decide) (by rfl) takesC (ma_cons (me_var (i := 8)) ma_nil)) (ma_cons (me_fn (F_gap_bytes c) hr (by decide) (by rfl) takesC (ma_cons (me_var (i := 8)) (ma_cons (me_var (i := 7)) ma_nil))) ma_nil))))) (ma_cons (me_tup (ma_cons (me_var (i := 4)) (ma_cons (me_var (i := 8)) (ma_cons (me_var (i := 10)) (ma_cons (me_var (i := 11)) ma_nil))))) ma_nil))))) (mss_one (ms_ret me_bl)) mss_nil) (mss_cons (ms_if (mt_not (mt_val (me_fn (F__law_same c 6) hr (by decide) (by rfl) takesC (ma_cons (me_fn (F_read_numbers c) hr (by decide) (by rfl) takesC (ma_cons (me_add (me_add (me_var (i := 1)) (me_tuple (me_var (i := 10)) (by rfl) c.g_tuple)) (me_var (i := 2))) (ma_cons (me_var (i := 6)) (ma_cons (me_len (me_var (i := 8)) (by rfl) c.g_len) ma_nil)))) (ma_cons (me_tup (ma_cons (me_var (i := 8)) (ma_cons (me_add (me_var (i := 6)) (me_len (me_var (i := 10)) (by rfl) c.g_len)) ma_nil))) ma_nil))))) (mss_one (ms_ret me_bl)) mss_nil) (mss_one (ms_ret (me_fn (F__law_same c 6) hr (by decide) (by rfl) takesC (ma_cons (me_fn (F_read_gaps c) hr (by decide) (by rfl) takesC (ma_cons (me_add (me_add (me_var (i := 1)) (me_tuple (me_var (i := 11)) (by rfl) c.g_tuple)) (me_var (i := 2))) (ma_cons (me_var (i := 6)) (ma_cons (me_len (me_var (i := 8)) (by rfl) c.g_len) (ma_cons (me_var (i := 7)) ma_nil))))) (ma_cons (me_tup (ma_cons (me_var (i := 8)) (ma_cons (me_add (me_var (i := 6)) (me_len (me_var (i := 11)) (by rfl) c.g_len)) ma_nil))) ma_nil)))))))))))))
theorem sc_law : FnScope ["script", "box", "turn", "tries", "some", "head", "number", "text", "signs", "value", "other", "data", "more", "k", "byte", "place", "whole", "told", "bad", "sign", "j"] ["script"] (defScope (tp 41)) := sc_of (by decide +kernel)
def e_law_1 : M := (mSm1 fIndexS (mC (.str " ,-.0123456789abcdefghijklmnopqrstuvwxyz")) (mVar 19))
def e_law_2 : M := (mCall f__law_draw (mACons (mVar 1) (mACons (mC (.int 256)) mANil)))
def l_law_3 : S → Res Out := (mSeq (mUnp [15, 16] (mCall f__law_good (mACons (mVar 4) mANil))) (mSeq (mUnp [17, 18] (mCall f__law_told (mACons (mVar 4) mANil))) (mIfS (mOrT (mNotT (mTru (mCall (f__law_same 6) (mACons (mVar 18) (mACons (mIf (mTru (mVar 16)) (mC .non) (mVar 15)) mANil))))) (mAndT (mTru (mVar 16)) (mOrT (mBl (mBin (opEq true) (mFn1 fTuple (mCall (f__law_pack 80) (mACons (mVar 17) mANil))) (mVar 4))) (mNotT (mTru (mCall (f__law_same 6) (mACons (mCall f_pack (mACons (mVar 17) mANil)) (mACons (mVar 4) mANil)))))))) (mRet (mC (.bl false))) mNx)))
def e_law_4 : M := (mBin opAdd (mBin opMul (mC (.int 128)) (mCall f__law_draw (mACons (mVar 1) (mACons (mC (.int 2)) mANil)))) (mCall f__law_draw (mACons (mVar 1) (mACons (mBin opIx (mTup (mACons (mC (.int 26)) (mACons (mC (.int 128)) mANil))) (mCall f__law_draw (mACons (mVar 1) (mACons (mC (.int 2)) mANil)))) mANil))))
def l_law_5 : S → Res Out := (mSeq (mParN [9, 10] (mRCons (mCall (f__law_value 4) (mACons (mVar 1) (mACons (mC (.int 3)) mANil))) (mRCons (mCall (f__law_value 4) (mACons (mVar 1) (mACons (mC (.int 2)) mANil))) mRNil))) (mSeq (mParN [11, 12] (mRCons (mFn1 fTuple (mCall (f__law_pack 80) (mACons (mVar 9) mANil))) (mRCons (mFn1 fTuple (mCall (f__law_pack 80) (mACons (mVar 10) mANil))) mRNil))) (mSeq (mIfS (mOrT (mNotT (mTru (mCall (f__law_same 6) (mACons (mTup (mACons (mCall f_pack (mACons (mVar 9) mANil)) (mACons (mCall f_pack (mACons (mVar 10) mANil)) mANil))) (mACons (mTup (mACons (mVar 11) (mACons (mVar 12) mANil))) mANil))))) (mNotT (mTru (mCall (f__law_same 6) (mACons (mTup (mACons (mCall f_unpack (mACons (mVar 11) mANil)) (mACons (mCall f_unpack (mACons (mVar 12) mANil)) mANil))) (mACons (mTup (mACons (mVar 9) (mACons (mVar 10) mANil))) mANil)))))) (mRet (mC (.bl false))) mNx) (mSeq (mIfS (mOrT (mBl (mBin (opEq true) (mCall (f__law_same 6) (mACons (mVar 9) (mACons (mVar 10) mANil))) (mBin (opEq false) (mVar 11) (mVar 12)))) (mAndT (mBl (mBin (opEq true) (mVar 11) (mVar 12))) (mOrT (mBl (mBin (opEq false) (mSlice (mVar 11) mNoPart (mPart (mFn1 fLen (mVar 12)))) (mVar 12))) (mBl (mBin (opEq false) (mSlice (mVar 12) mNoPart (mPart (mFn1 fLen (mVar 11)))) (mVar 11)))))) (mRet (mC (.bl false))) mNx) (mSeq (mParN [13, 14] (mRCons (mCall f__law_draw (mACons (mVar 1) (mACons (mFn1 fLen (mVar 11)) mANil))) (mRCons (mCall f__law_draw (mACons (mVar 1) (mACons (mC (.int 256)) mANil))) mRNil))) (mSeq (mSet 3 (mLst (mACons (mSlice (mVar 11) mNoPart (mPart (mVar 13))) (mACons (mBin opAdd (mBin opAdd (mSlice (mVar 11) mNoPart (mPart (mVar 13))) (mTup (mACons (mVar 14) mANil))) (mSlice (mVar 11) (mPart (mBin opAdd (mVar 13) (mC (.int 1)))) mNoPart)) (mACons (mBin opAdd (mBin opAdd (mSlice (mVar 11) mNoPart (mPart (mVar 13))) (mTup (mACons (mVar 14) mANil))) (mSlice (mVar 11) (mPart (mVar 13)) mNoPart)) (mACons (mBin opAdd (mSlice (mVar 11) mNoPart (mPart (mVar 13))) (mSlice (mVar 11) (mPart (mBin opAdd (mVar 13) (mC (.int 1)))) mNoPart)) (mACons (mBin opAdd (mVar 11) (mVar 12)) (mACons (mBin opAdd (mVar 11) (mTup (mACons (mVar 14) mANil))) (mACons (mBin opAdd (mVar 12) (mSlice (mVar 11) (mPart (mVar 13)) mNoPart)) mANil))))))))) (mSeq (mExpr (mLm1 fAppend (mVar 3) (mFn1 fTuple (mComp [20] (iRange1 (mACons (mCall f__law_draw (mACons (mVar 1) (mACons (mC (.int 9)) mANil))) mANil)) (tgName 20) mYes e_law_4)))) (mSeq (mFor (iSeq (mVar 3)) (tgName 4) l_law_3) (mSeq (mSet 5 (mFn1 fTuple (mComp [20] (iRange1 (mACons (mCall f__law_draw (mACons (mVar 1) (mACons (mC (.int 3)) mANil))) mANil)) (tgName 20) mYes e_law_2))) (mSeq (mIfS (mNotT (mTru (mCall f__law_numbers (mACons (mVar 1) (mACons (mVar 5) (mACons (mVar 12) mANil)))))) (mRet (mC (.bl false))) mNx) (mSeq (mSet 6 (mCall f__law_draw (mACons (mVar 1) (mACons (mC (.int 9999999)) mANil)))) (mSeq (mIfS (mNotT (mTru (mCall (f__law_same 6) (mACons (mTup (mACons (mCall f_number_bytes (mACons (mVar 6) mANil)) (mACons (mCall f_read_number (mACons (mBin opAdd (mBin opAdd (mVar 5) (mFn1 fTuple (mCall f__law_number (mACons (mVar 6) mANil)))) (mVar 12)) (mACons (mFn1 fLen (mVar 5)) mANil))) mANil))) (mACons (mTup (mACons (mCall f__law_number (mACons (mVar 6) mANil)) (mACons (mTup (mACons (mVar 6) (mACons (mBin opAdd (mFn1 fLen (mVar 5)) (mFn1 fLen (mCall f__law_number (mACons (mVar 6) mANil)))) mANil))) mANil))) mANil))))) (mRet (mC (.bl false))) mNx) (mSeq (mSet 7 (mSlice (mC (.str "a 9,z")) mNoPart (mPart (mCall f__law_draw (mACons (mVar 1) (mACons (mC (.int 6)) mANil)))))) (mSeq (mSet 8 (mComp [19] (iStrM (mVar 7)) (tgName 19) mYes e_law_1)) (mIfS (mNotT (mTru (mCall (f__law_same 6) (mACons (mTup (mACons (mCall f_sign_bytes (mACons (mVar 7) mANil)) (mACons (mCall f_read_signs (mACons (mBin opAdd (mBin opAdd (mVar 5) (mFn1 fTuple (mVar 8))) (mVar 12)) (mACons (mFn1 fLen (mVar 5)) (mACons (mFn1 fLen (mVar 7)) mANil)))) (mACons (mCall f_byte_at (mACons (mVar 11) (mACons (mVar 13) mANil))) mANil)))) (mACons (mTup (mACons (mVar 8) (mACons (mVar 7) (mACons (mBin opIx (mVar 11) (mVar 13)) mANil)))) mANil))))) (mRet (mC (.bl false))) mNx)))))))))))))))
def b_law : S → Res Out := (mSeq (mSet 1 (mCall f__law_box (mACons (mVar 0) mANil))) (mSeq (mIfS (mOrT (mBl (mBin (opEq true) (mC (.int 128)) (mC (.int 128)))) (mBl (mBin (opEq true) (mC (.str " ,-.0123456789abcdefghijklmnopqrstuvwxyz")) (mC (.str " ,-.0123456789abcdefghijklmnopqrstuvwxyz"))))) (mRet (mC (.bl false))) mNx) (mSeq (mFor (iRange1 (mACons (mC (.int 5)) mANil)) (tgName 2) l_law_5) (mRet (mAndV (mBin (opEq false) (mCall f_pack (mACons (mTup (mACons (mC (.int 1)) (mACons (mC (.str "ab")) (mACons (mC .non) (mACons (mFn1 fNeg (mC (.int 3))) mANil))))) mANil)) (mTup (mACons (mC (.int 151)) (mACons (mC (.int 133)) (mACons (mC (.int 140)) (mACons (mC (.int 14)) (mACons (mC (.int 15)) (mACons (mC (.int 132)) (mACons (mC (.int 139)) mANil))))))))) (mBin (opEq false) (mBin opIx (mCall f__law_told (mACons (mTup (mACons (mC (.int 147)) mANil)) mANil)) (mC (.int 1))) (mC (.int 0))))))))
def f_law : Fm := mDef 1 21 b_law
theorem F_law (c : Fx P K mg) : FnM P w K mg base 82 "law" ["script"] f_law := by
  refine fnM (N := ["script", "box", "turn", "tries", "some", "head", "number", "text", "signs", "value", "other", "data", "more", "k", "byte", "place", "whole", "told", "bad", "sign", "j"]) (m := b_law) c.d_law sc_law (by decide) (fun _ _ _ _ _ _ us hl => match us, hl with | [_], _ => rfl) fun f cdv A outer s H E hr => ?_
  have nd := (sc_law).nd
  exact (mss_cons (ms_set (i := 1) (me_fn (F__law_box c) hr (by decide) (by rfl) takesC (ma_cons (me_var (i := 0)) ma_nil)) nd) (mss_cons (ms_if (mt_w (mw_or (mt_cmp (op_neM hr.units) os_eq (me_gint c.v_GROUP (by rfl)) me_int (nomark _)) (mw_or1 (mt_cmp (op_neM hr.units) os_eq (me_gstr c.v_SIGNS (by rfl)) me_str (nomark _))))) (mss_one (ms_ret me_bl)) mss_nil) (mss_cons (ms_for owns (by rfl) (mi_range1 (ma_cons me_int ma_nil) (by rfl) c.g_range) (mg_name nd) (mss_cons (ms_par (i := 9) (j := 10) (by rfl) nd (mr_cons (me_fn (F__law_value c 4) hr (by decide) (by rfl) takesC (ma_cons (me_var (i := 1)) (ma_cons me_int ma_nil))) (mr_cons (me_fn (F__law_value c 4) hr (by decide) (by rfl) takesC (ma_cons (me_var (i := 1)) (ma_cons me_int ma_nil))) mr_nil))) (mss_cons (ms_par (i := 11) (j := 12) (by rfl) nd (mr_cons (me_tuple (me_fn (F__law_pack c 80) hr (by decide) (by rfl) takesC (ma_cons (me_var (i := 9)) ma_nil)) (by rfl) c.g_tuple) (mr_cons (me_tuple (me_fn (F__law_pack c 80) hr (by decide) (by rfl) takesC (ma_cons (me_var (i := 10)) ma_nil)) (by rfl) c.g_tuple) mr_nil))) (mss_cons (ms_if (mt_w (mw_or (mt_not (mt_val (me_fn (F__law_same c 6) hr (by decide) (by rfl) takesC (ma_cons (me_tup (ma_cons (me_fn (F_pack c) hr (by decide) (by rfl) takesC (ma_cons (me_var (i := 9)) ma_nil)) (ma_cons (me_fn (F_pack c) hr (by decide) (by rfl) takesC (ma_cons (me_var (i := 10)) ma_nil)) ma_nil))) (ma_cons (me_tup (ma_cons (me_var (i := 11)) (ma_cons (me_var (i := 12)) ma_nil))) ma_nil))))) (mw_or1 (mt_not (mt_val (me_fn (F__law_same c 6) hr (by decide) (by rfl) takesC (ma_cons (me_tup (ma_cons (me_fn (F_unpack c) hr (by decide) (by rfl) takesC (ma_cons (me_var (i := 11)) ma_nil)) (ma_cons (me_fn (F_unpack c) hr (by decide) (by rfl) takesC (ma_cons (me_var (i := 12)) ma_nil)) ma_nil))) (ma_cons (me_tup (ma_cons (me_var (i := 9)) (ma_cons (me_var (i := 10)) ma_nil))) ma_nil)))))))) (mss_one (ms_ret me_bl)) mss_nil) (mss_cons (ms_if (mt_w (mw_or (mt_cmp (op_neM hr.units) os_eq (me_fn (F__law_same c 6) hr (by decide) (by rfl) takesC (ma_cons (me_var (i := 9)) (ma_cons (me_var (i := 10)) ma_nil))) (me_eq hr.units (me_var (i := 11)) (me_var (i := 12))) (nomark _)) (mw_or1 (mt_w (mw_and (mt_cmp (op_neM hr.units) os_eq (me_var (i := 11)) (me_var (i := 12)) (nomark _)) (mw_and1 (mt_w (mw_or (mt_cmp (op_eqM hr.units) os_eq (me_slice (me_var (i := 11)) mo_none (mo_some (me_len (me_var (i := 12)) (by rfl) c.g_len))) (me_var (i := 12)) (nomark _)) (mw_or1 (mt_cmp (op_eqM hr.units) os_eq (me_slice (me_var (i := 12)) mo_none (mo_some (me_len (me_var (i := 11)) (by rfl) c.g_len))) (me_var (i := 11)) (nomark _))))))))))) (mss_one (ms_ret me_bl)) mss_nil) (mss_cons (ms_par (i := 13) (j := 14) (by rfl) nd (mr_cons (me_fn (F__law_draw c) hr (by decide) (by rfl) takesC (ma_cons (me_var (i := 1)) (ma_cons (me_len (me_var (i := 11)) (by rfl) c.g_len) ma_nil))) (mr_cons (me_fn (F__law_draw c) hr (by decide) (by rfl) takesC (ma_cons (me_var (i := 1)) (ma_cons me_int ma_nil))) mr_nil))) (mss_cons (ms_set (i := 3) (me_lst (ma_cons (me_slice (me_var (i := 11)) mo_none (mo_some (me_var (i := 13)))) (ma_cons (me_add (me_add (me_slice (me_var (i := 11)) mo_none (mo_some (me_var (i := 13)))) (me_tup (ma_cons (me_var (i := 14)) ma_nil))) (me_slice (me_var (i := 11)) (mo_some (me_add (me_var (i := 13)) me_int)) mo_none)) (ma_cons (me_add (me_add (me_slice (me_var (i := 11)) mo_none (mo_some (me_var (i := 13)))) (me_tup (ma_cons (me_var (i := 14)) ma_nil))) (me_slice (me_var (i := 11)) (mo_some (me_var (i := 13))) mo_none)) (ma_cons (me_add (me_slice (me_var (i := 11)) mo_none (mo_some (me_var (i := 13)))) (me_slice (me_var (i := 11)) (mo_some (me_add (me_var (i := 13)) me_int)) mo_none)) (ma_cons (me_add (me_var (i := 11)) (me_var (i := 12))) (ma_cons (me_add (me_var (i := 11)) (me_tup (ma_cons (me_var (i := 14)) ma_nil))) (ma_cons (me_add (me_var (i := 12)) (me_slice (me_var (i := 11)) (mo_some (me_var (i := 13))) mo_none)) ma_nil)))))))) nd) (mss_cons (ms_expr (me_append (me_var (i := 3)) (me_tuple (me_comp (by rfl) nd (mi_range1 (ma_cons (me_fn (F__law_draw c) hr (by decide) (by rfl) takesC (ma_cons (me_var (i := 1)) (ma_cons me_int ma_nil))) ma_nil) (by rfl) c.g_range) (blk_of (own := [("j", 20)]) (by rfl)) mgk_name (by decide) (fun _ _ _ _ _ => (mg_name nd).pg) (fun _ _ _ _ _ => mts_nil) (fun _ _ _ _ _ => (me_add (me_mul me_int (me_fn (F__law_draw c) hr (by decide) (by rfl) takesB (ma_cons (me_var (i := 1)) (ma_cons me_int ma_nil)))) (me_fn (F__law_draw c) hr (by decide) (by rfl) takesB (ma_cons (me_var (i := 1)) (ma_cons (me_ix (me_tup (ma_cons me_int (ma_cons me_int ma_nil))) (me_fn (F__law_draw c) hr (by decide) (by rfl) takesB (ma_cons (me_var (i := 1)) (ma_cons me_int ma_nil)))) ma_nil)))))) (by rfl) c.g_tuple))) (mss_cons (ms_for owns (by rfl) (mi_seq (me_var (i := 3))) (mg_name nd) (mss_cons (ms_unp (by rfl) (me_fn (F__law_good c) hr (by decide) (by rfl) takesC (ma_cons (me_var (i := 4)) ma_nil)) (mgs_cons (i := 15) (mgs_cons (i := 16) mgs_nil nd) nd)) (mss_cons (ms_unp (by rfl) (me_fn (F__law_told c) hr (by decide) (by rfl) takesC (ma_cons (me_var (i := 4)) ma_nil)) (mgs_cons (i := 17) (mgs_cons (i := 18) mgs_nil nd) nd)) (mss_one (ms_if (mt_w (mw_or (mt_not (mt_val (me_fn (F__law_same c 6) hr (by decide) (by rfl) takesC (ma_cons (me_var (i := 18)) (ma_cons (me_if (mt_val (me_var (i := 16))) me_non (me_var (i := 15))) ma_nil))))) (mw_or1 (mt_w (mw_and (mt_val (me_var (i := 16))) (mw_and1 (mt_w (mw_or (mt_cmp (op_neM hr.units) os_eq (me_tuple (me_fn (F__law_pack c 80) hr (by decide) (by rfl) takesC (ma_cons (me_var (i := 17)) ma_nil)) (by rfl) c.g_tuple) (me_var (i := 4)) (nomark _)) (mw_or1 (mt_not (mt_val (me_fn (F__law_same c 6) hr (by decide) (by rfl) takesC (ma_cons (me_fn (F_pack c) hr (by decide) (by rfl) takesC (ma_cons (me_var (i := 17)) ma_nil)) (ma_cons (me_var (i := 4)) ma_nil)))))))))))))) (mss_one (ms_ret me_bl)) mss_nil))))) (mss_cons (ms_set (i := 5) (me_tuple (me_comp (by rfl) nd (mi_range1 (ma_cons (me_fn (F__law_draw c) hr (by decide) (by rfl) takesC (ma_cons (me_var (i := 1)) (ma_cons me_int ma_nil))) ma_nil) (by rfl) c.g_range) (blk_of (own := [("j", 20)]) (by rfl)) mgk_name (by decide) (fun _ _ _ _ _ => (mg_name nd).pg) (fun _ _ _ _ _ => mts_nil) (fun _ _ _ _ _ => (me_fn (F__law_draw c) hr (by decide) (by rfl) takesB (ma_cons (me_var (i := 1)) (ma_cons me_int ma_nil))))) (by rfl) c.g_tuple) nd) (mss_cons (ms_if (mt_not (mt_val (me_fn (F__law_numbers c) hr (by decide) (by rfl) takesC (ma_cons (me_var (i := 1)) (ma_cons (me_var (i := 5)) (ma_cons (me_var (i := 12)) ma_nil)))))) (mss_one (ms_ret me_bl)) mss_nil) (mss_cons (ms_set (i := 6) (me_fn (F__law_draw c) hr (by decide) (by rfl) takesC (ma_cons (me_var (i := 1)) (ma_cons me_int ma_nil))) nd) (mss_cons (ms_if (mt_not (mt_val (me_fn (F__law_same c 6) hr (by decide) (by rfl) takesC (ma_cons (me_tup (ma_cons (me_fn (F_number_bytes c) hr (by decide) (by rfl) takesC (ma_cons (me_var (i := 6)) ma_nil)) (ma_cons (me_fn (F_read_number c) hr (by decide) (by rfl) takesC (ma_cons (me_add (me_add (me_var (i := 5)) (me_tuple (me_fn (F__law_number c) hr (by decide) (by rfl) takesC (ma_cons (me_var (i := 6)) ma_nil)) (by rfl) c.g_tuple)) (me_var (i := 12))) (ma_cons (me_len (me_var (i := 5)) (by rfl) c.g_len) ma_nil))) ma_nil))) (ma_cons (me_tup (ma_cons (me_fn (F__law_number c) hr (by decide) (by rfl) takesC (ma_cons (me_var (i := 6)) ma_nil)) (ma_cons (me_tup (ma_cons (me_var (i := 6)) (ma_cons (me_add (me_len (me_var (i := 5)) (by rfl) c.g_len) (me_len (me_fn (F__law_number c) hr (by decide) (by rfl) takesC (ma_cons (me_var (i := 6)) ma_nil)) (by rfl) c.g_len)) ma_nil))) ma_nil))) ma_nil))))) (mss_one (ms_ret me_bl)) mss_nil) (mss_cons (ms_set (i := 7) (me_slice me_str mo_none (mo_some (me_fn (F__law_draw c) hr (by decide) (by rfl) takesC (ma_cons (me_var (i := 1)) (ma_cons me_int ma_nil))))) nd) (mss_cons (ms_setComp (i := 8) (by rfl) nd (mi_str (me_var (i := 7))) (blk_of (own := [("sign", 19)]) (by rfl)) mgk_name (by decide) (fun _ _ _ _ _ => (mg_name nd).pg) (fun _ _ _ _ _ => mts_nil) (fun _ _ _ _ _ => (me_indexS (me_gstr c.v_SIGNS (by rfl)) (me_var (i := 19))))) (mss_one (ms_if (mt_not (mt_val (me_fn (F__law_same c 6) hr (by decide) (by rfl) takesC (ma_cons (me_tup (ma_cons (me_fn (F_sign_bytes c) hr (by decide) (by rfl) takesC (ma_cons (me_var (i := 7)) ma_nil)) (ma_cons (me_fn (F_read_signs c) hr (by decide) (by rfl) takesC (ma_cons (me_add (me_add (me_var (i := 5)) (me_tuple (me_var (i := 8)) (by rfl) c.g_tuple)) (me_var (i := 12))) (ma_cons (me_len (me_var (i := 5)) (by rfl) c.g_len) (ma_cons (me_len (me_var (i := 7)) (by rfl) c.g_len) ma_nil)))) (ma_cons (me_fn (F_byte_at c) hr (by decide) (by rfl) takesC (ma_cons (me_var (i := 11)) (ma_cons (me_var (i := 13)) ma_nil))) ma_nil)))) (ma_cons (me_tup (ma_cons (me_var (i := 8)) (ma_cons (me_var (i := 7)) (ma_cons (me_ix (me_var (i := 11)) (me_var (i := 13))) ma_nil)))) ma_nil))))) (mss_one (ms_ret me_bl)) mss_nil))))))))))))))))) (mss_one (ms_ret (me_and (me_eq hr.units (me_fn (F_pack c) hr (by decide) (by rfl) takesC (ma_cons (me_tup (ma_cons me_int (ma_cons me_str (ma_cons me_non (ma_cons (me_neg me_int) ma_nil))))) ma_nil)) (me_tup (ma_cons me_int (ma_cons me_int (ma_cons me_int (ma_cons me_int (ma_cons me_int (ma_cons me_int (ma_cons me_int ma_nil))))))))) (me_one (me_eq hr.units (me_ix (me_fn (F__law_told c) hr (by decide) (by rfl) takesC (ma_cons (me_tup (ma_cons me_int ma_nil)) ma_nil)) me_int) me_int))))))))
end
end K18
/-! # k18, the plain part: numbers, values, their bytes -/
namespace K18
open PySem PySem.Spec PyProof.Rows L2 MI
/-! ### numbers -/
def digs : Nat → List Int
  | 0 => []
  | n + 1 => digs ((n + 1) / 128) ++ [(((n + 1) % 128 : Nat) : Int)]
termination_by n => n
decreasing_by omega
theorem digs_0 : digs 0 = [] := by rw [digs]
theorem digs_pos (n : Nat) (h : 0 < n) : digs n = digs (n / 128) ++ [((n % 128 : Nat) : Int)] := by
  cases n with
  | zero => omega
  | succ n => rw [digs]
def num (n : Int) : List Int := digs (n.toNat / 128) ++ [128 + n % 128]
theorem digs_head : ∀ m : Nat, (digs m).head? ≠ some 0 := by
  intro m
  induction m using Nat.strongRecOn with
  | ind m ih =>
    by_cases h : m = 0
    · rw [h, digs_0]; simp
    · rw [digs_pos m (by omega)]
      by_cases h2 : m / 128 = 0
      · rw [h2, digs_0]
        simp
        omega
      · have := ih (m / 128) (by omega)
        cases e : digs (m / 128) with
        | nil => rw [digs_pos _ (by omega)] at e; simp at e
        | cons a l => rw [e] at this; simpa using this
theorem num_head (n : Int) (h : 0 ≤ n) : (num n).head? ≠ some 0 := by
  unfold num
  cases e : digs (n.toNat / 128) with
  | nil => simp; omega
  | cons a l =>
    have := digs_head (n.toNat / 128)
    rw [e] at this
    simpa using this
def rdN : List Int → Int → Option (Int × List Int)
  | [], _ => none
  | b :: r, f => if 128 ≤ b then some (f * 128 + b - 128, r) else rdN r (f * 128 + b)
theorem rdN_digs (m : Nat) : ∀ s : List Int, rdN (digs m ++ s) 0 = rdN s m := by
  induction m using Nat.strongRecOn with
  | ind m ih =>
    intro s
    by_cases h : m = 0
    · rw [h, digs_0]; rfl
    · rw [digs_pos m (by omega), List.append_assoc, ih (m / 128) (by omega)]
      show rdN (((m % 128 : Nat) : Int) :: s) _ = _
      rw [rdN, if_neg (by omega)]
      congr 1
      omega
theorem rdN_num (h : Int) (h0 : 0 ≤ h) (s : List Int) : rdN (num h ++ s) 0 = some (h, s) := by
  unfold num
  rw [List.append_assoc, rdN_digs]
  show rdN ((128 + h % 128) :: s) _ = _
  rw [rdN, if_pos (by omega)]
  congr 2
  omega
def rd : List Int → Sum (Int × List Int) Nat
  | [] => .inr 0
  | b :: r => if b = 0 then .inr (r.length + 1) else match rdN (b :: r) 0 with
    | some x => .inl x
    | none => .inr 0
theorem num_cons (h : Int) (h0 : 0 ≤ h) : ∃ b r, num h = b :: r ∧ b ≠ 0 := by
  have := num_head h h0
  cases e : num h with
  | nil => unfold num at e; simp at e
  | cons b r =>
    rw [e] at this
    exact ⟨b, r, rfl, fun z => this (by rw [z]; rfl)⟩
theorem rd_num (h : Int) (h0 : 0 ≤ h) (s : List Int) : rd (num h ++ s) = .inl (h, s) := by
  obtain ⟨b, r, e, hb⟩ := num_cons h h0
  have z := rdN_num h h0 s
  rw [e] at z ⊢
  show (if b = 0 then _ else match rdN (b :: (r ++ s)) 0 with | some x => _ | none => _) = _
  rw [if_neg hb]
  have z' : rdN (b :: (r ++ s)) 0 = some (h, s) := z
  rw [z']
def Byt (d : List Int) : Prop := ∀ b ∈ d, 0 ≤ b ∧ b < 256
theorem rdN_inv : ∀ (d : List Int) (f : Nat) (h : Int) (r : List Int), Byt d → (0 < f ∨ d.head? ≠ some 0) → rdN d f = some (h, r) → digs f ++ d = num h ++ r ∧ 0 ≤ h
  | [], _, _, _, _, _, e => by cases e
  | b :: d, f, h, r, hb, h0, e => by
    obtain ⟨b0, b1⟩ := hb b List.mem_cons_self
    unfold rdN at e
    split at e
    · cases e
      refine ⟨?_, by omega⟩
      unfold num
      have e1 : ((f : Int) * 128 + b - 128).toNat / 128 = f := by omega
      have e2 : 128 + ((f : Int) * 128 + b - 128) % 128 = b := by omega
      rw [e1, e2, List.append_assoc]
      rfl
    · rename_i hlt
      have z : (f : Int) * 128 + b = ((f * 128 + b.toNat : Nat) : Int) := by omega
      rw [z] at e
      have pos : 0 < f * 128 + b.toNat := by
        rcases h0 with h0 | h0
        · omega
        · have : b ≠ 0 := fun q => h0 (by rw [q]; rfl)
          omega
      obtain ⟨h1, h2⟩ := rdN_inv d _ h r (fun x m => hb x (List.mem_cons_of_mem _ m)) (.inl pos) e
      refine ⟨?_, h2⟩
      rw [← h1, digs_pos _ pos]
      have e1 : (f * 128 + b.toNat) / 128 = f := by omega
      have e2 : (((f * 128 + b.toNat) % 128 : Nat) : Int) = b := by omega
      rw [e1, e2, List.append_assoc]
      rfl
theorem rd_inv (d : List Int) (h : Int) (r : List Int) (hb : Byt d) (e : rd d = .inl (h, r)) : d = num h ++ r ∧ 0 ≤ h := by
  cases d with
  | nil => cases e
  | cons b d =>
    have e : (if b = 0 then Sum.inr (d.length + 1) else match rdN (b :: d) 0 with | some x => Sum.inl x | none => Sum.inr 0) = Sum.inl (h, r) := e
    split at e
    · cases e
    · rename_i hb0
      cases q : rdN (b :: d) 0 with
      | none => rw [q] at e; cases e
      | some z =>
        rw [q] at e
        cases e
        have := rdN_inv (b :: d) 0 h r hb (.inr fun z => hb0 (by simpa using z)) q
        rwa [digs_0, List.nil_append] at this
def big (d : List Int) : Nat := d.countP fun b => decide (128 ≤ b)
theorem big_app (a b : List Int) : big (a ++ b) = big a + big b := List.countP_append ..
theorem big_low (a : List Int) (h : ∀ b ∈ a, b < 128) : big a = 0 := by
  unfold big
  rw [List.countP_eq_zero]
  intro b hb
  have := h b hb
  simp
  omega
theorem digs_lt (m : Nat) : ∀ b ∈ digs m, 0 ≤ b ∧ b < 128 := by
  induction m using Nat.strongRecOn with
  | ind m ih =>
    by_cases h : m = 0
    · rw [h, digs_0]; simp
    · rw [digs_pos m (by omega)]
      intro b hb
      rcases List.mem_append.mp hb with hb | hb
      · exact ih _ (by omega) b hb
      · simp at hb
        omega
theorem big_num (n : Int) : big (num n) = 1 := by
  unfold num
  rw [big_app, big_low _ fun b hb => (digs_lt _ b hb).2]
  have : (0 : Int) ≤ n % 128 := Int.emod_nonneg _ (by omega)
  simp [big]
  omega
theorem digs_len : ∀ (k m : Nat), m < 128 ^ k → (digs m).length ≤ k
  | 0, m, h => by
    have : m = 0 := by simpa using h
    rw [this, digs_0]; simp
  | k + 1, m, h => by
    by_cases z : m = 0
    · rw [z, digs_0]; simp
    · rw [digs_pos m (by omega), List.length_append]
      have := digs_len k (m / 128) (by rw [Nat.pow_succ] at h; exact Nat.div_lt_of_lt_mul (by omega))
      simp
      omega
theorem num_bytes (n : Int) : Byt (num n) := by
  intro b hb
  unfold num at hb
  rcases List.mem_append.mp hb with hb | hb
  · have := digs_lt _ b hb
    omega
  · simp at hb
    have h1 : (0 : Int) ≤ n % 128 := Int.emod_nonneg _ (by omega)
    have h2 : n % 128 < 128 := Int.emod_lt_of_pos _ (by omega)
    omega
theorem byt_app {a b : List Int} (h : Byt a) (h2 : Byt b) : Byt (a ++ b) := fun x m => by
  rcases List.mem_append.mp m with m | m
  · exact h x m
  · exact h2 x m
theorem byt_left {a b : List Int} (h : Byt (a ++ b)) : Byt a := fun x m => h x (List.mem_append_left _ m)
theorem byt_right {a b : List Int} (h : Byt (a ++ b)) : Byt b := fun x m => h x (List.mem_append_right _ m)
theorem num_ne (n : Int) : num n ≠ [] := by unfold num; simp
/-! ### texts -/
def SG : Str := " ,-.0123456789abcdefghijklmnopqrstuvwxyz"
def sgn (i : Int) : Nat := SG.cps.toList.getD i.toNat 0
def sing (c : Nat) : Str := ⟨#[c]⟩
def txt (l : List Int) : Str := ⟨(l.map sgn).toArray⟩
def Sgs (l : List Int) : Prop := ∀ b ∈ l, 0 ≤ b ∧ b < 40
theorem sgn_inj0 : ∀ i j : Fin 40, SG.cps.toList.getD i.val 0 = SG.cps.toList.getD j.val 0 → i = j := by decide +kernel
theorem sgn_inj {i j : Int} (h0 : 0 ≤ i) (h1 : i < 40) (h2 : 0 ≤ j) (h3 : j < 40) (e : sgn i = sgn j) : i = j := by
  have := sgn_inj0 ⟨i.toNat, by omega⟩ ⟨j.toNat, by omega⟩ e
  have := congrArg Fin.val this
  simp at this
  omega
theorem txt_inj {l m : List Int} (hl : Sgs l) (hm : Sgs m) (e : txt l = txt m) : l = m := by
  have e1 : l.map sgn = m.map sgn := by
    have := congrArg (fun z : Str => z.cps.toList) e
    simpa [txt] using this
  clear e
  induction l generalizing m with
  | nil => cases m with
    | nil => rfl
    | cons => cases e1
  | cons a l ih => cases m with
    | nil => cases e1
    | cons b m =>
      simp only [List.map_cons, List.cons.injEq] at e1
      obtain ⟨a0, a1⟩ := hl a List.mem_cons_self
      obtain ⟨b0, b1⟩ := hm b List.mem_cons_self
      rw [sgn_inj a0 a1 b0 b1 e1.1, ih (fun x h => hl x (List.mem_cons_of_mem _ h)) (fun x h => hm x (List.mem_cons_of_mem _ h)) e1.2]
def sgs : Nat → List Int → Sum (List Int × List Int) Nat
  | 0, r => .inl ([], r)
  | _ + 1, [] => .inr 0
  | n + 1, b :: r => if 40 ≤ b then .inr (r.length + 1) else match sgs n r with
    | .inl (s, r') => .inl (b :: s, r')
    | .inr e => .inr e
theorem sgs_app : ∀ (l r : List Int), (∀ b ∈ l, b < 40) → sgs l.length (l ++ r) = .inl (l, r)
  | [], _, _ => rfl
  | b :: l, r, h => by
    have hb := h b List.mem_cons_self
    have ih := sgs_app l r fun x m => h x (List.mem_cons_of_mem _ m)
    show (if 40 ≤ b then _ else match sgs l.length (l ++ r) with | .inl (s, r') => _ | .inr e => _) = _
    rw [if_neg (by omega), ih]
theorem sgs_inl : ∀ (n : Nat) (r s r' : List Int), sgs n r = .inl (s, r') → r = s ++ r' ∧ s.length = n ∧ ∀ b ∈ s, b < 40
  | 0, r, s, r', e => by cases e; exact ⟨rfl, rfl, by simp⟩
  | _ + 1, [], _, _, e => by cases e
  | n + 1, b :: r, s, r', e => by
    unfold sgs at e
    split at e
    · cases e
    · rename_i hb
      cases q : sgs n r with
      | inr z => rw [q] at e; cases e
      | inl z =>
        obtain ⟨s1, r1⟩ := z
        rw [q] at e
        cases e
        obtain ⟨h1, h2, h3⟩ := sgs_inl n r s1 r' q
        refine ⟨by rw [h1]; rfl, by simp [h2], fun x m => ?_⟩
        rcases List.mem_cons.mp m with rfl | m
        · omega
        · exact h3 x m
/-! ### values -/
def hdA : D → Option Int
  | .non => some 4
  | .bl b => some (if b then 14 else 9)
  | .int i => some (if 0 ≤ i then 5 * i else 5 * (-1 - i) + 1)
  | _ => none
mutual
inductive Pk : Nat → D → List Int → Prop
  | atom (n : Nat) (x : D) (h : Int) : hdA x = some h → Pk (n + 1) x (num h)
  | str (n : Nat) (l : List Int) : Sgs l → Pk (n + 1) (.str (txt l)) (num (5 * l.length + 2) ++ l)
  | tup (n : Nat) (xs : List D) (l : List Int) : PkL n xs l → Pk (n + 1) (.tup xs) (num (5 * xs.length + 3) ++ l)
inductive PkL : Nat → List D → List Int → Prop
  | nil (n : Nat) : PkL n [] []
  | cons (n : Nat) (x : D) (xs : List D) (l m : List Int) : Pk n x l → PkL n xs m → PkL n (x :: xs) (l ++ m)
end
mutual
theorem Pk.mono : ∀ {n m : Nat} {x : D} {l : List Int}, Pk n x l → n ≤ m → Pk m x l
  | _, 0, _, _, .atom n _ _ _, h => by omega
  | _, 0, _, _, .str n _ _, h => by omega
  | _, 0, _, _, .tup n _ _ _, h => by omega
  | _, m + 1, _, _, .atom n x i e, h => .atom m x i e
  | _, m + 1, _, _, .str n l e, h => .str m l e
  | _, m + 1, _, _, .tup n xs l e, h => .tup m xs l (PkL.mono e (by omega))
theorem PkL.mono : ∀ {n m : Nat} {x : List D} {l : List Int}, PkL n x l → n ≤ m → PkL m x l
  | _, m, _, _, .nil n, h => .nil m
  | _, m, _, _, .cons n x xs l k a b, h => .cons m x xs l k (Pk.mono a h) (PkL.mono b h)
end
theorem PkL.snoc {n : Nat} {x : D} {l : List Int} (hx : Pk n x l) : ∀ {xs : List D} {m : List Int}, PkL n xs m → PkL n (xs ++ [x]) (m ++ l)
  | _, _, .nil _ => by
    have := PkL.cons n x [] l [] hx (.nil n)
    simpa using this
  | _, _, .cons _ y ys k m a b => by
    have := PkL.cons n y _ k _ a (PkL.snoc hx b)
    simpa [List.append_assoc] using this
inductive It where
  | val (x : D) (r : List Int) | op (s : Nat) (r : List Int) | err (e : Nat)
def bare (i : Int) : D := if i = 0 then .non else if i = 1 then .bl false else .bl true
def item (d : List Int) : It := match rd d with
  | .inr e => .err e
  | .inl (h, r) => if h % 5 = 3 then .op (h / 5).toNat r else
    if h % 5 = 2 then (match sgs (h / 5).toNat r with | .inl (s, r') => .val (.str (txt s)) r' | .inr e => .err e) else
    if h % 5 = 0 then .val (.int (h / 5)) r else
    if h % 5 = 1 then .val (.int (-1 - h / 5)) r else
    if h / 5 ≤ 2 then .val (bare (h / 5)) r else .err (r.length + 1)
theorem item_tup (s : Nat) (r : List Int) : item (num (5 * s + 3) ++ r) = .op s r := by
  unfold item
  rw [rd_num _ (by omega)]
  simp only
  rw [if_pos (by omega)]
  congr 1
  omega
theorem item_str (l r : List Int) (h : Sgs l) : item (num (5 * l.length + 2) ++ (l ++ r)) = .val (.str (txt l)) r := by
  unfold item
  rw [rd_num _ (by omega)]
  simp only
  rw [if_neg (by omega), if_pos (by omega)]
  have e : ((5 * (l.length : Int) + 2) / 5).toNat = l.length := by omega
  rw [e, sgs_app l r fun b m => (h b m).2]
theorem item_atom (x : D) (h : Int) (r : List Int) (e : hdA x = some h) : item (num h ++ r) = .val x r := by
  have key : ∀ h : Int, 0 ≤ h → item (num h ++ r) = (if h % 5 = 3 then .op (h / 5).toNat r else
    if h % 5 = 2 then (match sgs (h / 5).toNat r with | .inl (s, r') => .val (.str (txt s)) r' | .inr e => .err e) else
    if h % 5 = 0 then .val (.int (h / 5)) r else
    if h % 5 = 1 then .val (.int (-1 - h / 5)) r else
    if h / 5 ≤ 2 then .val (bare (h / 5)) r else .err (r.length + 1)) := fun h h0 => by
    unfold item
    rw [rd_num _ h0]
  cases x with
  | non =>
    cases e
    rw [key _ (by omega)]
    rfl
  | bl b =>
    cases e
    cases b
    · rw [key _ (by simp)]; rfl
    · rw [key _ (by simp)]; rfl
  | int i =>
    simp only [hdA, Option.some.injEq] at e
    by_cases z : 0 ≤ i
    · rw [if_pos z] at e
      subst e
      rw [key _ (by omega), if_neg (by omega), if_neg (by omega), if_pos (by omega)]
      congr 2
      omega
    · rw [if_neg z] at e
      subst e
      rw [key _ (by omega), if_neg (by omega), if_neg (by omega), if_neg (by omega), if_pos (by omega)]
      congr 2
      omega
  | str => cases e
  | tup => cases e
  | lst => cases e
  | dic => cases e
  | ref => cases e
  | scr => cases e
theorem item_op (d : List Int) (s : Nat) (r : List Int) (hb : Byt d) (e : item d = .op s r) : d = num (5 * s + 3) ++ r := by
  unfold item at e
  cases q : rd d with
  | inr z => rw [q] at e; cases e
  | inl z =>
    obtain ⟨h, r1⟩ := z
    rw [q] at e
    simp only at e
    obtain ⟨h1, h2⟩ := rd_inv d h r1 hb q
    split at e
    · rename_i h3
      cases e
      rw [h1]
      congr 2
      omega
    · split at e
      · split at e <;> cases e
      · split at e
        · cases e
        · split at e
          · cases e
          · split at e <;> cases e
theorem item_val (d : List Int) (x : D) (r : List Int) (hb : Byt d) (e : item d = .val x r) : ∃ c, d = c ++ r ∧ (∀ n, Pk (n + 1) x c) ∧ 1 ≤ big c ∧ c ≠ [] := by
  unfold item at e
  cases q : rd d with
  | inr z => rw [q] at e; cases e
  | inl z =>
    obtain ⟨h, r1⟩ := z
    rw [q] at e
    simp only at e
    obtain ⟨h1, h2⟩ := rd_inv d h r1 hb q
    have fin : ∀ y : D, hdA y = some h → It.val y r1 = It.val x r → ∃ c, d = c ++ r ∧ (∀ n, Pk (n + 1) x c) ∧ 1 ≤ big c ∧ c ≠ [] := fun y hy ey => by
      cases ey
      exact ⟨num h, h1, fun n => .atom n x h hy, by rw [big_num]; omega, num_ne h⟩
    split at e
    · cases e
    · split at e
      · rename_i h3
        split at e
        · rename_i s r' es
          cases e
          obtain ⟨k1, k2, k3⟩ := sgs_inl _ _ _ _ es
          have bs : Byt s := byt_left (b := r) (by rw [← k1]; rw [h1] at hb; exact byt_right hb)
          refine ⟨num h ++ s, by rw [h1, k1, List.append_assoc], fun n => ?_, by rw [big_app, big_num]; omega, by simp [num_ne h]⟩
          have eh : h = 5 * s.length + 2 := by omega
          rw [eh]
          exact .str n s fun b m => ⟨(bs b m).1, k3 b m⟩
        · cases e
      · split at e
        · exact fin _ (by simp only [hdA]; rw [if_pos (by omega)]; congr 1; omega) e
        · split at e
          · exact fin _ (by simp only [hdA]; rw [if_neg (by omega)]; congr 1; omega) e
          · split at e
            · rename_i hle
              have : h / 5 = 0 ∨ h / 5 = 1 ∨ h / 5 = 2 := by omega
              rcases this with z | z | z
              · exact fin _ (by rw [z]; simp only [bare, if_true, hdA]; congr 1; omega) e
              · exact fin _ (by rw [z]; simp [bare, hdA]; omega) e
              · exact fin _ (by rw [z]; simp [bare, hdA]; omega) e
            · cases e
/-! ### the reader that counts -/
inductive GR : Nat → List Int → Option Nat → Prop
  | fin : GR 0 [] none
  | more (d : List Int) : d ≠ [] → GR 0 d (some d.length)
  | err (n : Nat) (d : List Int) (e : Nat) : item d = .err e → GR (n + 1) d (some e)
  | val (n : Nat) (d : List Int) (x : D) (r : List Int) (o : Option Nat) : item d = .val x r → GR n r o → GR (n + 1) d o
  | op (n : Nat) (d : List Int) (s : Nat) (r : List Int) (o : Option Nat) : item d = .op s r → GR (n + s) r o → GR (n + 1) d o
theorem gr_total : ∀ (k : Nat) (d : List Int), d.length ≤ k → Byt d → ∀ n, ∃ o, GR n d o := by
  intro k
  induction k with
  | zero =>
    intro d hd _ n
    have : d = [] := List.eq_nil_of_length_eq_zero (by omega)
    subst this
    cases n with
    | zero => exact ⟨none, .fin⟩
    | succ n => exact ⟨some 0, .err n [] 0 rfl⟩
  | succ k ih =>
    intro d hd hb n
    cases n with
    | zero =>
      by_cases h : d = []
      · subst h; exact ⟨none, .fin⟩
      · exact ⟨_, .more d h⟩
    | succ n =>
      cases e : item d with
      | err z => exact ⟨some z, .err n d z e⟩
      | val x r =>
        obtain ⟨c, h1, _, _, h3⟩ := item_val d x r hb e
        have hc : 0 < c.length := List.length_pos_iff.mpr h3
        have hl := congrArg List.length h1
        rw [List.length_append] at hl
        obtain ⟨o, h⟩ := ih r (by omega) (by rw [h1] at hb; exact byt_right hb) n
        exact ⟨o, .val n d x r o e h⟩
      | op s r =>
        have h1 := item_op d s r hb e
        have hc : 0 < (num (5 * s + 3)).length := List.length_pos_iff.mpr (num_ne _)
        have hl := congrArg List.length h1
        rw [List.length_append] at hl
        obtain ⟨o, h⟩ := ih r (by omega) (by rw [h1] at hb; exact byt_right hb) (n + s)
        exact ⟨o, .op n d s r o e h⟩
mutual
theorem gr_pk : ∀ {n : Nat} {x : D} {l : List Int}, Pk n x l → ∀ (k : Nat) (r : List Int) (o : Option Nat), GR k r o → GR (k + 1) (l ++ r) o
  | _, _, _, .atom n x h e, k, r, o, g => .val k _ x r o (item_atom x h r e) g
  | _, _, _, .str n l e, k, r, o, g => by
    rw [List.append_assoc]
    exact .val k _ _ r o (item_str l r e) g
  | _, _, _, .tup n xs l e, k, r, o, g => by
    rw [List.append_assoc]
    exact .op k _ xs.length _ o (item_tup _ _) (gr_pkl e k r o g)
theorem gr_pkl : ∀ {n : Nat} {xs : List D} {l : List Int}, PkL n xs l → ∀ (k : Nat) (r : List Int) (o : Option Nat), GR k r o → GR (k + xs.length) (l ++ r) o
  | _, _, _, .nil n, k, r, o, g => g
  | _, _, _, .cons n x xs l m a b, k, r, o, g => by
    rw [List.append_assoc]
    exact gr_pk a _ _ _ (gr_pkl b k r o g)
end
/-- a value's bytes are read, and none are left -/
theorem gr_whole {n : Nat} {x : D} {l : List Int} (h : Pk n x l) : GR 1 l none := by
  have := gr_pk h 0 [] none .fin
  rwa [List.append_nil] at this
theorem gr_det : ∀ {n : Nat} {d : List Int} {o : Option Nat}, GR n d o → ∀ {o' : Option Nat}, GR n d o' → o = o' := by
  intro n d o h
  induction h with
  | fin => intro o' h'; cases h' with
    | fin => rfl
    | more _ hd => exact absurd rfl hd
  | more d hd => intro o' h'; cases h' with
    | fin => exact absurd rfl hd
    | more => rfl
  | err n d e he =>
    intro o' h'
    cases h' with
    | err _ _ e' he' => rw [he] at he'; cases he'; rfl
    | val _ _ x r _ he' => rw [he] at he'; cases he'
    | op _ _ s r _ he' => rw [he] at he'; cases he'
  | val n d x r o he hg ih =>
    intro o' h'
    cases h' with
    | err _ _ e' he' => rw [he] at he'; cases he'
    | val _ _ x r _ he' hg' => rw [he] at he'; cases he'; exact ih hg'
    | op _ _ s r _ he' => rw [he] at he'; cases he'
  | op n d s r o he hg ih =>
    intro o' h'
    cases h' with
    | err _ _ e' he' => rw [he] at he'; cases he'
    | val _ _ x r _ he' hg' => rw [he] at he'; cases he'
    | op _ _ s r _ he' hg' => rw [he] at he'; cases he'; exact ih hg'
/-! ### one value, one writing -/
mutual
theorem pk_uniq : ∀ {n m : Nat} {x y : D} {l l' r r' : List Int}, Pk n x l → Pk m y l' → l ++ r = l' ++ r' → x = y ∧ l = l'
  | _, _, _, _, _, _, r, r', .atom n x h e, .atom m y h' e', z => by
    have a := item_atom x h r e
    rw [z, item_atom y h' r' e'] at a
    cases a
    exact ⟨rfl, List.append_cancel_right z⟩
  | _, _, _, _, _, _, r, r', .atom n x h e, .str m l' e', z => by
    have a := item_atom x h r e
    rw [z, List.append_assoc, item_str l' r' e'] at a
    cases a
    exact ⟨rfl, List.append_cancel_right z⟩
  | _, _, _, _, _, _, r, r', .atom n x h e, .tup m ys l' e', z => by
    have a := item_atom x h r e
    rw [z, List.append_assoc, item_tup] at a
    cases a
  | _, _, _, _, _, _, r, r', .str n l e, .atom m y h' e', z => by
    have a := item_str l r e
    rw [← List.append_assoc, z, item_atom y h' r' e'] at a
    cases a
    exact ⟨rfl, List.append_cancel_right z⟩
  | _, _, _, _, _, _, r, r', .str n l e, .str m l' e', z => by
    have a := item_str l r e
    rw [← List.append_assoc, z, List.append_assoc, item_str l' r' e'] at a
    have a1 := (It.val.inj a).1
    have a2 := (It.val.inj a).2
    subst a2
    exact ⟨a1.symm, List.append_cancel_right z⟩
  | _, _, _, _, _, _, r, r', .str n l e, .tup m ys l' e', z => by
    have a := item_str l r e
    rw [← List.append_assoc, z, List.append_assoc, item_tup] at a
    cases a
  | _, _, _, _, _, _, r, r', .tup n xs l e, .atom m y h' e', z => by
    have a := item_tup xs.length (l ++ r)
    rw [← List.append_assoc, z, item_atom y h' r' e'] at a
    cases a
  | _, _, _, _, _, _, r, r', .tup n xs l e, .str m l' e', z => by
    have a := item_tup xs.length (l ++ r)
    rw [← List.append_assoc, z, List.append_assoc, item_str l' r' e'] at a
    cases a
  | _, _, _, _, _, _, r, r', .tup n xs l e, .tup m ys l' e', z => by
    have a := item_tup xs.length (l ++ r)
    rw [← List.append_assoc, z, List.append_assoc, item_tup] at a
    have a1 := (It.op.inj a).1
    have a2 := (It.op.inj a).2
    obtain ⟨h1, h2⟩ := pkl_uniq e e' a2.symm a1.symm
    exact ⟨by rw [h1], by rw [h2, a1]⟩
theorem pkl_uniq : ∀ {n m : Nat} {xs ys : List D} {l l' r r' : List Int}, PkL n xs l → PkL m ys l' → l ++ r = l' ++ r' → xs.length = ys.length → xs = ys ∧ l = l'
  | _, _, _, _, _, _, r, r', .nil n, .nil m, z, _ => ⟨rfl, rfl⟩
  | _, _, _, _, _, _, r, r', .nil n, .cons m y ys l' k' a' b', z, h => by simp at h
  | _, _, _, _, _, _, r, r', .cons n x xs l k a b, .nil m, z, h => by simp at h
  | _, _, _, _, _, _, r, r', .cons n x xs l k a b, .cons m y ys l' k' a' b', z, h => by
    rw [List.append_assoc, List.append_assoc] at z
    obtain ⟨h1, h2⟩ := pk_uniq a a' z
    subst h1 h2
    obtain ⟨h3, h4⟩ := pkl_uniq b b' (List.append_cancel_left z) (by simpa using h)
    exact ⟨by rw [h3], by rw [h4]⟩
end
end K18
/-! # k18: numbers by the program and by the law -/
namespace K18
open PySem PySem.Spec PyProof.Rows L2 MI
theorem nb_loop (gl : List MObj) (m : Nat) : ∀ (acc : List Int), acc.length + (digs m).length ≤ 900000 → ∃ N, whileGo t_number_bytes_1 l_number_bytes_2 N ⟨[.val (.int m), .own (.lst (IL acc))], gl⟩ = .ok .nx ⟨[.val (.int 0), .own (.lst (IL (acc ++ (digs m).reverse)))], gl⟩ := by
  induction m using Nat.strongRecOn with
  | ind m ih =>
    intro acc hl
    by_cases h : m = 0
    · subst h
      rw [digs_0, List.reverse_nil, List.append_nil]
      exact wh_stop (by simp [t_number_bytes_1])
    · have e := digs_pos m (by omega)
      have hl2 : acc.length + (digs (m / 128)).length + 1 ≤ 900000 := by rw [e] at hl; simp at hl; omega
      have hp : 0 < (m : Int) := by omega
      refine wh_step (s1 := ⟨[.val (.int m), .own (.lst (IL acc))], gl⟩) (s2 := ⟨[.val (.int ((m / 128 : Nat) : Int)), .own (.lst (IL (acc ++ [((m % 128 : Nat) : Int)])))], gl⟩) (by simp [t_number_bytes_1]; omega) ?_ ?_
      · have e1 : ((m / 128 : Nat) : Int) = (m : Int) / 128 := by omega
        have e2 : ((m % 128 : Nat) : Int) = (m : Int) % 128 := by omega
        rw [e1, e2]
        have fa := fApp_ok (IL acc) (.int ((m : Int) % 128)) (by rw [List.length_map]; omega)
        simp [l_number_bytes_2, q_mod, q_fdiv, as_d, fa]
      · obtain ⟨N, hN⟩ := ih (m / 128) (by omega) (acc ++ [((m % 128 : Nat) : Int)]) (by simp; omega)
        refine ⟨N, hN.trans ?_⟩
        rw [e]
        simp
theorem number_bytes_spec (n : Int) (gl : List MObj) (h0 : 0 ≤ n) (hl : (num n).length ≤ 900000) : f_number_bytes [.int n] gl = .ok (.lst (IL (num n))) gl := by
  have hl' : (digs (n.toNat / 128)).length + 1 ≤ 900000 := by unfold num at hl; simpa using hl
  have w := wh_done (nb_loop gl (n.toNat / 128) [128 + n % 128] (by simp; omega)) (by simp)
  have e1 : ((n.toNat / 128 : Nat) : Int) = n / 128 := by omega
  rw [e1] at w
  simp at w
  simp [f_number_bytes, mDef, b_number_bytes, q_mod, q_fdiv, as_d, as_new, w, num, opRev, asInt, asTup, asLst]
theorem ln_loop (gl : List MObj) (m : Nat) : ∀ (acc : List Int), acc.length + (digs (m / 128)).length ≤ 900000 → ∃ N, ∃ m' : Int, whileGo t__law_number_1 l__law_number_2 N ⟨[.val (.int m), .own (.lst (IL acc))], gl⟩ = .ok .nx ⟨[.val (.int m'), .own (.lst (IL (digs (m / 128) ++ acc)))], gl⟩ := by
  induction m using Nat.strongRecOn with
  | ind m ih =>
    intro acc hl
    by_cases h : m / 128 = 0
    · have hp : ¬ (127 < (m : Int)) := by omega
      rw [h, digs_0, List.nil_append]
      obtain ⟨N, w⟩ := wh_stop (t := t__law_number_1) (l := l__law_number_2) (s := ⟨[.val (.int m), .own (.lst (IL acc))], gl⟩) (s' := ⟨[.val (.int m), .own (.lst (IL acc))], gl⟩) (by simp [t__law_number_1, hp])
      exact ⟨N, m, w⟩
    · have e := digs_pos (m / 128) (by omega)
      have hl2 : acc.length + (digs (m / 128 / 128)).length + 1 ≤ 900000 := by rw [e] at hl; simp at hl; omega
      have hp : 127 < (m : Int) := by omega
      obtain ⟨N, m', hN⟩ := ih (m / 128) (by omega) (((m / 128 % 128 : Nat) : Int) :: acc) (by simp; omega)
      obtain ⟨N', w⟩ := wh_step (t := t__law_number_1) (l := l__law_number_2) (s := ⟨[.val (.int m), .own (.lst (IL acc))], gl⟩) (s1 := ⟨[.val (.int m), .own (.lst (IL acc))], gl⟩) (s2 := ⟨[.val (.int ((m / 128 : Nat) : Int)), .own (.lst (IL (((m / 128 % 128 : Nat) : Int) :: acc)))], gl⟩) (by simp [t__law_number_1, hp]) (by
        have e1 : ((m / 128 : Nat) : Int) = (m : Int) / 128 := by omega
        have e2 : ((m / 128 % 128 : Nat) : Int) = (m : Int) / 128 % 128 := by omega
        have e3 : (m : Int) / 128 - (m : Int) / 128 / 128 * 128 = (m : Int) / 128 % 128 := by omega
        rw [e1, e2]
        have a1 : ∀ s : S, asLst s (.at 1) = some (IL acc) → opAdd s (.d (.lst [.int ((m : Int) / 128 % 128)])) (.at 1) = .ok (.new (.lst (IL (((m : Int) / 128 % 128) :: acc)))) s := fun s h => q_addIL (a := [(m : Int) / 128 % 128]) (by simp; omega) rfl h
        simp [l__law_number_2, q_mod, q_fdiv, q_mulR, as_d, as_new, e3, a1, asLst]) ⟨N, hN⟩
      refine ⟨N', m', w.trans ?_⟩
      rw [e]
      simp
theorem law_number_spec (n : Int) (gl : List MObj) (h0 : 0 ≤ n) (hl : (num n).length ≤ 800000) : f__law_number [.int n] gl = .ok (.lst (IL (num n))) gl := by
  have hl' : (digs (n.toNat / 128)).length + 1 ≤ 800000 := by unfold num at hl; simpa using hl
  obtain ⟨N, m', hN⟩ := ln_loop gl n.toNat [n % 128] (by simp; omega)
  have w := mWhile_eq hN (by simp)
  have e1 : ((n.toNat : Nat) : Int) = n := by omega
  have e3 : n - n / 128 * 128 = n % 128 := by omega
  rw [e1] at w
  simp at w
  generalize hD : digs (n.toNat / 128) = dd at w hl'
  have c1 : cut (IL dd ++ [D.int (n % 128)]) none (some (-1)) = IL dd := by
    unfold cut HT.sIx
    simp
    have : (-1 + ((dd.length : Int) + 1)).toNat = dd.length := by omega
    rw [this]
    simp
  have c2 : atI (IL dd ++ [D.int (n % 128)]) (-1) = some (.int (n % 128)) := by
    unfold atI ixN
    simp
    have : (-1 + ((dd.length : Int) + 1)).toNat = dd.length := by omega
    rw [if_pos (by omega)]
    simp [this]
  have a1 : ∀ s : S, opAdd s (.d (.lst (IL dd))) (.new (.lst [.int (128 + n % 128)])) = .ok (.new (.lst (IL (dd ++ [128 + n % 128])))) s := fun s => q_addIL (b := [128 + n % 128]) (by simp; omega) rfl rfl
  have e4 : n % 128 + 128 = 128 + n % 128 := by omega
  simp [f__law_number, mDef, b__law_number, q_mod, q_fdiv, q_mulR, as_d, as_new, w, e3, num, hD, opSl, asInt, asTup, asLst, c1, c2, q_ixL, a1, e4]
end K18
/-! # k18: reading numbers, signs -/
namespace K18
open PySem PySem.Spec PyProof.Rows L2 MI
/-! ### places -/
/-- where r begins in d -/
def pos (d r : List Int) : Int := (d.length : Int) - r.length
theorem pos_next (d r : List Int) (b : Int) : pos d (b :: r) + 1 = pos d r := by unfold pos; simp; omega
theorem pos_nil (d : List Int) : pos d [] = d.length := by unfold pos; simp
theorem pos_lo {d r : List Int} (h : r <:+ d) : 0 ≤ pos d r ∧ pos d r ≤ d.length := by
  have := h.length_le
  unfold pos
  omega
theorem pos_get {d r : List Int} {b : Int} (h : (b :: r) <:+ d) : d[(pos d (b :: r)).toNat]? = some b := by
  obtain ⟨pre, rfl⟩ := h
  have : (pos (pre ++ b :: r) (b :: r)).toNat = pre.length := by unfold pos; simp
  rw [this]
  simp
theorem pos_lt {d r : List Int} {b : Int} (h : (b :: r) <:+ d) : pos d (b :: r) < d.length := by
  unfold pos
  simp only [List.length_cons]
  omega
theorem suf_tl {d r : List Int} {b : Int} (h : (b :: r) <:+ d) : r <:+ d := (List.suffix_cons b r).trans h
theorem suf_app {d c r : List Int} (h : (c ++ r) <:+ d) : r <:+ d := (List.suffix_append c r).trans h
abbrev bad (d : List Int) (e : Nat) : D := .tup [.str "place", .int ((d.length : Int) - e)]
theorem byte_ok {d r : List Int} {b : Int} (gl : List MObj) (h : (b :: r) <:+ d) : f_byte_at [.tup (IL d), .int (pos d (b :: r))] gl = .ok (.int b) gl := by
  have hp : ¬ (d.length : Int) ≤ pos d (b :: r) := by have := pos_lt h; omega
  have ix : ∀ s, opIx s (.d (.tup (IL d))) (.d (.int (pos d (b :: r)))) = .ok (.d (.int b)) s := fun s => q_ixT (atI_il (pos_lo h).1 (pos_get h))
  simp [f_byte_at, mDef, b_byte_at, hp, ix]
theorem byte_exc (d : List Int) (gl : List MObj) (hd : d.length ≤ 100000) : f_byte_at [.tup (IL d), .int (pos d [])] gl = .exc "BadBytes" (bad d 0) gl := by
  have h2 : d.length ≤ 1000000 := by omega
  simp [f_byte_at, mDef, b_byte_at, pos_nil, h2, bad]
theorem rd_loop (d : List Int) (gl : List MObj) (hd : d.length ≤ 100000) : ∀ (r : List Int) (b f : Int), (b :: r) <:+ d →
    match rdN (b :: r) f with
    | some (n, r') => r' <:+ d ∧ ∃ f' b', (∃ N, whileGo t_read_number_1 l_read_number_2 N ⟨[.val (.tup (IL d)), .val (.int (pos d (b :: r))), .val (.int f), .val (.int b)], gl⟩ = .ok .nx ⟨[.val (.tup (IL d)), .val (.int (pos d (b' :: r'))), .val (.int f'), .val (.int b')], gl⟩) ∧ f' * 128 + b' - 128 = n
    | none => ∃ e, ∃ N, whileGo t_read_number_1 l_read_number_2 N ⟨[.val (.tup (IL d)), .val (.int (pos d (b :: r))), .val (.int f), .val (.int b)], gl⟩ = .exc "BadBytes" (bad d 0) ⟨e, gl⟩
  | r, b, f, hs => by
    by_cases h : 128 ≤ b
    · have hb : ¬ b < 128 := by omega
      simp only [rdN, h, if_true]
      exact ⟨suf_tl hs, f, b, wh_stop (by simp [t_read_number_1, hb]), rfl⟩
    · have hb : b < 128 := by omega
      simp only [rdN, h, if_false]
      cases r with
      | nil =>
        have e1 := byte_exc d gl hd
        refine ⟨_, wh_exc (s1 := ⟨[.val (.tup (IL d)), .val (.int (pos d [b])), .val (.int f), .val (.int b)], gl⟩) (by simp [t_read_number_1, hb]) (s2 := ⟨[.val (.tup (IL d)), .val (.int (pos d [])), .val (.int (f * 128 + b)), .val (.int b)], gl⟩) ?_⟩
        simp [l_read_number_2, q_mulR, as_d, pos_next, e1]
      | cons c r =>
        have e1 := byte_ok gl (suf_tl hs)
        have ih := rd_loop d gl hd r c (f * 128 + b) (suf_tl hs)
        have lb : l_read_number_2 ⟨[.val (.tup (IL d)), .val (.int (pos d (b :: c :: r))), .val (.int f), .val (.int b)], gl⟩ = .ok .nx ⟨[.val (.tup (IL d)), .val (.int (pos d (c :: r))), .val (.int (f * 128 + b)), .val (.int c)], gl⟩ := by
          simp [l_read_number_2, q_mulR, as_d, pos_next, e1]
        have lt : t_read_number_1 ⟨[.val (.tup (IL d)), .val (.int (pos d (b :: c :: r))), .val (.int f), .val (.int b)], gl⟩ = .ok true ⟨[.val (.tup (IL d)), .val (.int (pos d (b :: c :: r))), .val (.int f), .val (.int b)], gl⟩ := by
          simp [t_read_number_1, hb]
        cases q : rdN (c :: r) (f * 128 + b) with
        | none =>
          rw [q] at ih
          obtain ⟨e, h⟩ := ih
          exact ⟨e, wh_step lt lb h⟩
        | some nq =>
          rw [q] at ih
          obtain ⟨h0, f', b', h1, h2⟩ := ih
          exact ⟨h0, f', b', wh_step lt lb h1, h2⟩
theorem read_number_spec {d r : List Int} (gl : List MObj) (hd : d.length ≤ 100000) (h : r <:+ d) : match rd r with
    | .inl (n, r') => r' <:+ d ∧ f_read_number [.tup (IL d), .int (pos d r)] gl = .ok (.tup [.int n, .int (pos d r')]) gl
    | .inr e => e ≤ r.length ∧ f_read_number [.tup (IL d), .int (pos d r)] gl = .exc "BadBytes" (bad d e) gl := by
  cases r with
  | nil =>
    have e1 := byte_exc d gl hd
    refine ⟨Nat.zero_le _, ?_⟩
    simp [f_read_number, mDef, List.replicate, b_read_number, e1]
  | cons b r =>
    have e1 := byte_ok gl h
    by_cases hb : b = 0
    · subst hb
      have p1 := pos_lo h
      have p2 : (pos d (0 :: r)).natAbs ≤ 1000000 := by omega
      have p3 : pos d (0 :: r) = (d.length : Int) - ((r.length + 1 : Nat) : Int) := rfl
      simp only [rd, if_true]
      refine ⟨Nat.le_refl _, ?_⟩
      simp [f_read_number, mDef, List.replicate, b_read_number, e1, as_d, p2, bad]
      rw [p3]
      simp
    · have hl := rd_loop d gl hd r b 0 h
      simp only [rd, hb, if_false]
      cases q : rdN (b :: r) 0 with
      | none =>
        rw [q] at hl
        obtain ⟨e, h⟩ := hl
        have w := wh_done h (by simp)
        refine ⟨Nat.zero_le _, ?_⟩
        simp [f_read_number, mDef, List.replicate, b_read_number, e1, as_d, hb, w]
      | some nq =>
        obtain ⟨n, r'⟩ := nq
        rw [q] at hl
        obtain ⟨h0, f', b', h1, h2⟩ := hl
        have w := wh_done h1 (by simp)
        refine ⟨h0, ?_⟩
        simp [f_read_number, mDef, List.replicate, b_read_number, e1, as_d, hb, w, q_mulR, h2, pos_next]
/-! ### lists of numbers -/
def flat (ns : List Int) : List Int := (ns.map num).flatten
theorem flat_cons (n : Int) (ns : List Int) : flat (n :: ns) = num n ++ flat ns := rfl
def NN (ns : List Int) : Prop := ∀ n ∈ ns, 0 ≤ n
theorem nbs_loop (x0 : D) (gl : List MObj) : ∀ (ns acc : List Int) (y : Slot), NN ns → acc.length + (flat ns).length ≤ 100000 → ∃ y', forGo (tgName 2) l_numbers_bytes_1 (IL ns) ⟨[.val x0, .own (.lst (IL acc)), y], gl⟩ = .ok .nx ⟨[.val x0, .own (.lst (IL (acc ++ flat ns))), y'], gl⟩
  | [], acc, y, _, _ => ⟨y, by simp [forGo, flat]⟩
  | n :: ns, acc, y, hn, hl => by
    rw [flat_cons, List.length_append] at hl
    obtain ⟨y', ih⟩ := nbs_loop x0 gl ns (acc ++ num n) (.val (.int n)) (fun m h => hn m (List.mem_cons_of_mem _ h)) (by rw [List.length_append]; omega)
    have e1 := number_bytes_spec n gl (hn n List.mem_cons_self) (by omega)
    have e2 := fExt_lst (IL acc) (IL (num n)) (by simp only [List.length_map]; omega)
    have e3 : IL acc ++ IL (num n) = IL (acc ++ num n) := by simp
    rw [e3] at e2
    have st : l_numbers_bytes_1 ⟨[.val x0, .own (.lst (IL acc)), .val (.int n)], gl⟩ = .ok .nx ⟨[.val x0, .own (.lst (IL (acc ++ num n))), .val (.int n)], gl⟩ := by
      simp [-List.map_append, l_numbers_bytes_1, e1, e2]
    refine ⟨y', ?_⟩
    show forGo _ _ (.int n :: IL ns) _ = _
    rw [forGo_cons, ap_tgName, as_d (by simp)]
    simp only [List.set_cons_succ, List.set_cons_zero, st]
    rw [flat_cons, ← List.append_assoc]
    exact ih
theorem numbers_bytes_spec (ns : List Int) (gl : List MObj) (hn : NN ns) (hl : (flat ns).length ≤ 100000) : f_numbers_bytes [.lst (IL ns)] gl = .ok (.lst (IL (flat ns))) gl := by
  obtain ⟨y', h⟩ := nbs_loop (.lst (IL ns)) gl ns [] .none hn (by simpa using hl)
  simp at h
  simp [f_numbers_bytes, mDef, List.replicate, b_numbers_bytes, as_new, h]
def gapsP : List Int → Int → List Int
  | [], _ => []
  | n :: ns, b => (n - b - 1) :: gapsP ns n
theorem gapsP_len : ∀ (ns : List Int) (b : Int), (gapsP ns b).length = ns.length
  | [], _ => rfl
  | n :: ns, b => by rw [gapsP, List.length_cons, List.length_cons, gapsP_len]
theorem gaps_loop (x0 : D) (gl : List MObj) : ∀ (ns acc : List Int) (b : Int) (y : Slot), acc.length + ns.length ≤ 100000 → ∃ y' b', forGo (tgName 3) l_gaps_of_1 (IL ns) ⟨[.val x0, .val (.int b), .own (.lst (IL acc)), y], gl⟩ = .ok .nx ⟨[.val x0, .val b', .own (.lst (IL (acc ++ gapsP ns b))), y'], gl⟩
  | [], acc, b, y, _ => ⟨y, .int b, by simp [forGo, gapsP]⟩
  | n :: ns, acc, b, y, hl => by
    simp only [List.length_cons] at hl
    obtain ⟨y', b', ih⟩ := gaps_loop x0 gl ns (acc ++ [n - b - 1]) n (.val (.int n)) (by simp; omega)
    have e2 := fApp_ok (IL acc) (.int (n - b - 1)) (by simp only [List.length_map]; omega)
    have st : l_gaps_of_1 ⟨[.val x0, .val (.int b), .own (.lst (IL acc)), .val (.int n)], gl⟩ = .ok .nx ⟨[.val x0, .val (.int n), .own (.lst (IL (acc ++ [n - b - 1]))), .val (.int n)], gl⟩ := by
      simp [l_gaps_of_1, e2, as_d]
    refine ⟨y', b', ?_⟩
    show forGo _ _ (.int n :: IL ns) _ = _
    rw [forGo_cons, ap_tgName, as_d (by simp)]
    simp only [List.set_cons_succ, List.set_cons_zero, st]
    rw [ih, gapsP]
    simp
theorem gaps_of_spec (ns : List Int) (b : Int) (gl : List MObj) (hl : ns.length ≤ 100000) : f_gaps_of [.lst (IL ns), .int b] gl = .ok (.lst (IL (gapsP ns b))) gl := by
  obtain ⟨y', b', h⟩ := gaps_loop (.lst (IL ns)) gl ns [] b .none (by simpa using hl)
  simp at h
  simp [f_gaps_of, mDef, List.replicate, b_gaps_of, as_new, h]
def numsP : List Int → Int → List Int
  | [], _ => []
  | g :: gs, b => (b + 1 + g) :: numsP gs (b + 1 + g)
theorem nums_gaps : ∀ (ns : List Int) (b : Int), numsP (gapsP ns b) b = ns
  | [], _ => rfl
  | n :: ns, b => by
    have e : b + 1 + (n - b - 1) = n := by omega
    rw [gapsP, numsP, e, nums_gaps ns n]
theorem nums_loop (x0 : D) (gl : List MObj) : ∀ (ns acc : List Int) (b : Int) (y : Slot), acc.length + ns.length ≤ 100000 → ∃ y' b', forGo (tgName 3) l_numbers_of_1 (IL ns) ⟨[.val x0, .val (.int b), .own (.lst (IL acc)), y], gl⟩ = .ok .nx ⟨[.val x0, .val b', .own (.lst (IL (acc ++ numsP ns b))), y'], gl⟩
  | [], acc, b, y, _ => ⟨y, .int b, by simp [forGo, numsP]⟩
  | n :: ns, acc, b, y, hl => by
    simp only [List.length_cons] at hl
    obtain ⟨y', b', ih⟩ := nums_loop x0 gl ns (acc ++ [b + 1 + n]) (b + 1 + n) (.val (.int n)) (by simp; omega)
    have e2 := fApp_ok (IL acc) (.int (b + 1 + n)) (by simp only [List.length_map]; omega)
    have st : l_numbers_of_1 ⟨[.val x0, .val (.int b), .own (.lst (IL acc)), .val (.int n)], gl⟩ = .ok .nx ⟨[.val x0, .val (.int (b + 1 + n)), .own (.lst (IL (acc ++ [b + 1 + n]))), .val (.int n)], gl⟩ := by
      simp [l_numbers_of_1, e2, as_d]
    refine ⟨y', b', ?_⟩
    show forGo _ _ (.int n :: IL ns) _ = _
    rw [forGo_cons, ap_tgName, as_d (by simp)]
    simp only [List.set_cons_succ, List.set_cons_zero, st]
    rw [ih, numsP]
    simp
theorem numbers_of_spec (ns : List Int) (b : Int) (gl : List MObj) (hl : ns.length ≤ 100000) : f_numbers_of [.lst (IL ns), .int b] gl = .ok (.lst (IL (numsP ns b))) gl := by
  obtain ⟨y', b', h⟩ := nums_loop (.lst (IL ns)) gl ns [] b .none (by simpa using hl)
  simp at h
  simp [f_numbers_of, mDef, List.replicate, b_numbers_of, as_new, h]
theorem gap_bytes_spec (ns : List Int) (b : Int) (gl : List MObj) (hl : ns.length ≤ 100000) (hn : NN (gapsP ns b)) (hf : (flat (gapsP ns b)).length ≤ 100000) : f_gap_bytes [.lst (IL ns), .int b] gl = .ok (.lst (IL (flat (gapsP ns b)))) gl := by
  have e1 := gaps_of_spec ns b gl hl
  have e2 := numbers_bytes_spec _ gl hn hf
  simp [f_gap_bytes, mDef, b_gap_bytes, e1, e2]
theorem rns_loop (d : List Int) (gl : List MObj) (hd : d.length ≤ 100000) (many : Nat) : ∀ (ns acc t : List Int) (y : Slot), NN ns → (flat ns ++ t) <:+ d → acc.length + ns.length = many → many ≤ 100000 →
    ∃ y', ∃ N, whileGo t_read_numbers_1 l_read_numbers_2 N ⟨[.val (.tup (IL d)), .val (.int (pos d (flat ns ++ t))), .val (.int many), .own (.lst (IL acc)), y], gl⟩ = .ok .nx ⟨[.val (.tup (IL d)), .val (.int (pos d t)), .val (.int many), .own (.lst (IL (acc ++ ns))), y'], gl⟩
  | [], acc, t, y, _, hs, hm, hm2 => by
    simp only [List.length_nil, Nat.add_zero] at hm
    have hm' : ¬ ((acc.length : Int) < many) := by omega
    refine ⟨y, ?_⟩
    have e : flat [] ++ t = t := rfl
    rw [e, List.append_nil]
    exact wh_stop (by simp [t_read_numbers_1, fLen, asD, lenD, hm'])
  | n :: ns, acc, t, y, hn, hs, hm, hm2 => by
    simp only [List.length_cons] at hm
    have hm' : (acc.length : Int) < many := by omega
    have e0 : flat (n :: ns) ++ t = num n ++ (flat ns ++ t) := by rw [flat_cons, List.append_assoc]
    rw [e0] at hs ⊢
    have hr := read_number_spec gl hd hs
    rw [rd_num n (hn n List.mem_cons_self)] at hr
    obtain ⟨h1, h2⟩ := hr
    obtain ⟨y', ih⟩ := rns_loop d gl hd many ns (acc ++ [n]) t (.val (.int n)) (fun m h => hn m (List.mem_cons_of_mem _ h)) h1 (by simp; omega) hm2
    have e2 := fApp_ok (IL acc) (.int n) (by simp only [List.length_map]; omega)
    refine ⟨y', wh_step (s1 := ⟨[.val (.tup (IL d)), .val (.int (pos d (num n ++ (flat ns ++ t)))), .val (.int many), .own (.lst (IL acc)), y], gl⟩)
      (s2 := ⟨[.val (.tup (IL d)), .val (.int (pos d (flat ns ++ t))), .val (.int many), .own (.lst (IL (acc ++ [n]))), .val (.int n)], gl⟩) (by simp [t_read_numbers_1, fLen, asD, lenD, hm']) ?_ ?_⟩
    · simp [-List.append_assoc, l_read_numbers_2, h2, as_d, e2]
    · obtain ⟨N, hN⟩ := ih
      exact ⟨N, by rw [hN, List.append_assoc]; rfl⟩
theorem read_numbers_spec (d : List Int) (gl : List MObj) (hd : d.length ≤ 100000) (ns t : List Int) (hn : NN ns) (hs : (flat ns ++ t) <:+ d) (hm : ns.length ≤ 100000) :
    f_read_numbers [.tup (IL d), .int (pos d (flat ns ++ t)), .int ns.length] gl = .ok (.tup [.lst (IL ns), .int (pos d t)]) gl := by
  obtain ⟨y', h⟩ := rns_loop d gl hd ns.length ns [] t .none hn hs (by simp) hm
  have w := wh_done h (by simp)
  simp [-List.append_assoc] at w
  simp [f_read_numbers, mDef, List.replicate, b_read_numbers, as_new, w]
theorem read_gaps_spec (d : List Int) (gl : List MObj) (hd : d.length ≤ 100000) (ns t : List Int) (b : Int) (hn : NN (gapsP ns b)) (hs : (flat (gapsP ns b) ++ t) <:+ d) (hm : ns.length ≤ 100000) :
    f_read_gaps [.tup (IL d), .int (pos d (flat (gapsP ns b) ++ t)), .int ns.length, .int b] gl = .ok (.tup [.lst (IL ns), .int (pos d t)]) gl := by
  have e1 := read_numbers_spec d gl hd (gapsP ns b) t hn hs (by rw [gapsP_len]; exact hm)
  rw [gapsP_len] at e1
  have e2 := numbers_of_spec (gapsP ns b) b gl (by rw [gapsP_len]; exact hm)
  rw [nums_gaps] at e2
  simp [f_read_gaps, mDef, List.replicate, b_read_gaps, as_d, e1, e2]
end K18
/-! # k18: texts and values written -/
namespace K18
open PySem PySem.Spec PyProof.Rows L2 MI
theorem occ0 : ∀ i : Fin 40, (Builtin.Str.occurrences SG ⟨#[SG.cps.toList.getD i.val 0]⟩ 0 SG.length 1).head? = some i.val := by decide +kernel
theorem index_ok (i : Int) (h0 : 0 ≤ i) (h1 : i < 40) : fIndexS SG (.str ⟨#[sgn i]⟩) = some (.int i) := by
  have := occ0 ⟨i.toNat, by omega⟩
  have e : (⟨#[sgn i]⟩ : Str) = ⟨#[SG.cps.toList.getD (⟨i.toNat, by omega⟩ : Fin 40).val 0]⟩ := rfl
  unfold fIndexS
  simp only
  rw [e]
  cases q : Builtin.Str.occurrences SG ⟨#[SG.cps.toList.getD (⟨i.toNat, by omega⟩ : Fin 40).val 0]⟩ 0 SG.length 1 with
  | nil => rw [q] at this; cases this
  | cons a l =>
    rw [q] at this
    simp at this
    subst this
    simp
    omega
theorem signs_txt (l : List Int) : MI.signs (txt l) = l.map fun i => D.str ⟨#[sgn i]⟩ := by
  unfold MI.signs txt
  simp
theorem sign_bytes_spec (l : List Int) (gl : List MObj) (hs : Sgs l) (hl : l.length ≤ 100000) : f_sign_bytes [.str (txt l)] gl = .ok (.lst (IL l)) gl := by
  have c : mComp [1] (iStrM (mVar 0)) (tgName 1) mYes e_sign_bytes_1 ⟨[.val (.str (txt l)), .none], gl⟩ = .ok (.new (.lst (IL l))) ⟨[.val (.str (txt l)), .none], gl⟩ := by
    refine comp_mapI l (fun i => .str ⟨#[sgn i]⟩) D.int (by simp [signs_txt]) (by simp) rfl (by omega) fun i hi => ?_
    have := index_ok i (hs i hi).1 (hs i hi).2
    unfold SG at this
    simp [e_sign_bytes_1, this]
  simp [-ap_Comp, f_sign_bytes, mDef, List.replicate, b_sign_bytes, c]
theorem head_atom (x : D) (h : Int) (gl : List MObj) (e : hdA x = some h) : f_head_of [x] gl = .ok (.int h) gl := by
  cases x with
  | non => cases e; simp [f_head_of, mDef, b_head_of, opIsN, isNonRV, q_mulL]
  | bl b =>
    cases e
    cases b <;> simp [f_head_of, mDef, b_head_of, opIsN, isNonRV, q_mulL, fIsi, asD, tyD, isTy, truthD, fInt]
  | int i =>
    simp only [hdA, Option.some.injEq] at e
    by_cases z : 0 ≤ i
    · rw [if_pos z] at e
      subst e
      simp [f_head_of, mDef, b_head_of, opIsN, isNonRV, q_mulL, fIsi, asD, tyD, isTy, truthD, fInt, z]
    · rw [if_neg z] at e
      subst e
      simp [f_head_of, mDef, b_head_of, opIsN, isNonRV, q_mulL, fIsi, asD, tyD, isTy, truthD, fInt, z]
  | _ => cases e
theorem txt_len (l : List Int) : (txt l).length = l.length := by unfold txt Str.length; simp
theorem head_str (l : List Int) (gl : List MObj) (hl : l.length ≤ 100000) : f_head_of [.str (txt l)] gl = .ok (.int (5 * l.length + 2)) gl := by
  have z := szN l.length (by omega)
  simp [f_head_of, mDef, b_head_of, opIsN, isNonRV, q_mulL, fIsi, asD, tyD, isTy, truthD, fLen, lenD, txt_len, z]
theorem head_tup (xs : List D) (gl : List MObj) : f_head_of [.tup xs] gl = .ok (.int (5 * xs.length + 3)) gl := by
  simp [f_head_of, mDef, b_head_of, opIsN, isNonRV, q_mulL, fIsi, asD, tyD, isTy, truthD, fLen, lenD]
theorem lhead_atom (x : D) (h : Int) (gl : List MObj) (e : hdA x = some h) : f__law_head [x] gl = .ok (.int h) gl := by
  cases x with
  | non => cases e; simp [f__law_head, mDef, b__law_head, opIsN, isNonRV, q_mulL]
  | bl b =>
    cases e
    cases b <;> simp [f__law_head, mDef, b__law_head, opIsN, isNonRV, q_mulL, fIsi, asD, tyD, isTy, truthD, fInt]
  | int i =>
    simp only [hdA, Option.some.injEq] at e
    by_cases z : 0 ≤ i
    · rw [if_pos z] at e
      subst e
      simp [f__law_head, mDef, b__law_head, opIsN, isNonRV, q_mulL, fIsi, asD, tyD, isTy, truthD, fInt, z]
    · rw [if_neg z] at e
      subst e
      simp [f__law_head, mDef, b__law_head, opIsN, isNonRV, q_mulL, fIsi, asD, tyD, isTy, truthD, fInt, z]
  | _ => cases e
theorem lhead_str (l : List Int) (gl : List MObj) (hl : l.length ≤ 100000) : f__law_head [.str (txt l)] gl = .ok (.int (5 * l.length + 2)) gl := by
  have z := szN l.length (by omega)
  simp [f__law_head, mDef, b__law_head, opIsN, isNonRV, q_mulL, fIsi, asD, tyD, isTy, truthD, fLen, lenD, txt_len, z]
theorem lhead_tup (xs : List D) (gl : List MObj) : f__law_head [.tup xs] gl = .ok (.int (5 * xs.length + 3)) gl := by
  simp [f__law_head, mDef, b__law_head, opIsN, isNonRV, q_mulL, fIsi, asD, tyD, isTy, truthD, fLen, lenD]
theorem hdA_lo {x : D} {h : Int} (e : hdA x = some h) : 0 ≤ h := by
  cases x with
  | non => cases e; omega
  | bl b => cases e; cases b <;> simp
  | int i => simp only [hdA, Option.some.injEq] at e; subst e; split <;> omega
  | _ => cases e
theorem num_pos (n : Int) : 1 ≤ (num n).length := List.length_pos_iff.mpr (num_ne n)
theorem pk_pos {n : Nat} {x : D} {l : List Int} (h : Pk n x l) : 1 ≤ l.length := by
  cases h with
  | atom _ _ h => exact num_pos h
  | str _ l => have := num_pos (5 * l.length + 2); rw [List.length_append]; omega
  | tup _ xs l => have := num_pos (5 * xs.length + 3); rw [List.length_append]; omega
theorem pkl_pos : ∀ {n : Nat} {xs : List D} {l : List Int}, PkL n xs l → xs.length ≤ l.length
  | _, _, _, .nil _ => Nat.le_refl _
  | _, _, _, .cons _ x xs l m a b => by
    have h1 := pk_pos a
    have h2 := pkl_pos b
    rw [List.length_cons, List.length_append]
    omega
theorem PkL.append {n : Nat} : ∀ {xs : List D} {l : List Int}, PkL n xs l → ∀ {ys : List D} {m : List Int}, PkL n ys m → PkL n (xs ++ ys) (l ++ m)
  | _, _, .nil _, ys, m, h => h
  | _, _, .cons _ x xs l k a b, ys, m, h => by
    rw [List.append_assoc]
    exact .cons n x _ l _ a (b.append h)
/-! ### pack -/
theorem pack_loop (v0 : D) (gl : List MObj) : ∀ (k : Nat) (n : Nat) (xs : List D) (l acc : List Int) (y : Slot), l.length ≤ k → PkL n xs l → acc.length + l.length ≤ 100000 →
    ∃ y', ∃ N, whileGo t_pack_1 l_pack_2 N ⟨[.val v0, .own (.lst (IL acc)), .own (.lst xs.reverse), y], gl⟩ = .ok .nx ⟨[.val v0, .own (.lst (IL (acc ++ l))), .own (.lst []), y'], gl⟩ := by
  intro k
  induction k with
  | zero =>
    intro n xs l acc y hk hp ha
    cases hp with
    | nil =>
      refine ⟨y, ?_⟩
      rw [List.append_nil]
      exact wh_stop (by simp [t_pack_1, asD, truthD])
    | cons _ x xs l m a b =>
      have := pk_pos a
      rw [List.length_append] at hk
      omega
  | succ k ih =>
    intro n xs l acc y hk hp ha
    cases hp with
    | nil =>
      refine ⟨y, ?_⟩
      rw [List.append_nil]
      exact wh_stop (by simp [t_pack_1, asD, truthD])
    | cons _ x xs l m a b =>
      have p1 := pk_pos a
      rw [List.length_append] at hk ha
      have tt : t_pack_1 ⟨[.val v0, .own (.lst (IL acc)), .own (.lst (x :: xs).reverse), y], gl⟩ = .ok true ⟨[.val v0, .own (.lst (IL acc)), .own (.lst (x :: xs).reverse), y], gl⟩ := by
        simp [t_pack_1, asD, truthD]
      cases a with
      | atom n' _ h e =>
        have e1 := head_atom x h gl e
        have e2 := number_bytes_spec h gl (hdA_lo e) (by omega)
        have e3 := fExt_lst (IL acc) (IL (num h)) (by simp only [List.length_map]; omega)
        have e4 : IL acc ++ IL (num h) = IL (acc ++ num h) := by simp
        rw [e4] at e3
        obtain ⟨y', w⟩ := ih (n' + 1) xs m (acc ++ num h) (.val x) (by omega) b (by rw [List.length_append]; omega)
        refine ⟨y', wh_step tt (s2 := ⟨[.val v0, .own (.lst (IL (acc ++ num h))), .own (.lst xs.reverse), .val x], gl⟩) ?_ (by rw [← List.append_assoc]; exact w)⟩
        cases x with
        | non => simp [-List.map_append, l_pack_2, e1, e2, e3, fIsi, asD, tyD, isTy, truthD, as_d]
        | bl z => simp [-List.map_append, l_pack_2, e1, e2, e3, fIsi, asD, tyD, isTy, truthD, as_d]
        | int i => simp [-List.map_append, l_pack_2, e1, e2, e3, fIsi, asD, tyD, isTy, truthD, as_d]
        | _ => cases e
      | str n' l hs =>
        rw [List.length_append] at hk ha p1
        have e1 := head_str l gl (by omega)
        have e2 := number_bytes_spec (5 * l.length + 2) gl (by omega) (by omega)
        have e3 := fExt_lst (IL acc) (IL (num (5 * l.length + 2))) (by simp only [List.length_map]; omega)
        have e4 : IL acc ++ IL (num (5 * l.length + 2)) = IL (acc ++ num (5 * l.length + 2)) := by simp
        rw [e4] at e3
        have e5 := sign_bytes_spec l gl hs (by omega)
        have e6 := fExt_lst (IL (acc ++ num (5 * l.length + 2))) (IL l) (by simp only [List.length_map, List.length_append]; omega)
        have e7 : IL (acc ++ num (5 * l.length + 2)) ++ IL l = IL (acc ++ (num (5 * l.length + 2) ++ l)) := by simp
        rw [e7] at e6
        have np := num_pos (5 * l.length + 2)
        obtain ⟨y', w⟩ := ih (n' + 1) xs m (acc ++ (num (5 * l.length + 2) ++ l)) (.val (.str (txt l))) (by omega) b (by simp only [List.length_append]; omega)
        refine ⟨y', wh_step tt (s2 := ⟨[.val v0, .own (.lst (IL (acc ++ (num (5 * l.length + 2) ++ l)))), .own (.lst xs.reverse), .val (.str (txt l))], gl⟩) ?_ (by
          have z : acc ++ (num (5 * l.length + 2) ++ l) ++ m = acc ++ (num (5 * l.length + 2) ++ l ++ m) := by simp
          rw [← z]; exact w)⟩
        simp [-List.map_append, l_pack_2, e1, e2, e3, e5, e6, fIsi, asD, tyD, isTy, truthD, as_d]
      | tup n' zs l hz =>
        rw [List.length_append] at hk ha p1
        have e1 := head_tup zs gl
        have e2 := number_bytes_spec (5 * zs.length + 3) gl (by omega) (by omega)
        have e3 := fExt_lst (IL acc) (IL (num (5 * zs.length + 3))) (by simp only [List.length_map]; omega)
        have e4 : IL acc ++ IL (num (5 * zs.length + 3)) = IL (acc ++ num (5 * zs.length + 3)) := by simp
        rw [e4] at e3
        have q1 := pkl_pos hz
        have q2 := pkl_pos b
        have e6 := fExt_tup xs.reverse zs.reverse (by simp only [List.length_reverse]; omega)
        have e7 : xs.reverse ++ zs.reverse = (zs ++ xs).reverse := by simp
        rw [e7] at e6
        have np := num_pos (5 * zs.length + 3)
        obtain ⟨y', w⟩ := ih (n' + 1) (zs ++ xs) (l ++ m) (acc ++ num (5 * zs.length + 3)) (.val (.tup zs)) (by simp only [List.length_append]; omega) ((hz.mono (Nat.le_succ _)).append b) (by simp only [List.length_append]; omega)
        refine ⟨y', wh_step tt (s2 := ⟨[.val v0, .own (.lst (IL (acc ++ num (5 * zs.length + 3)))), .own (.lst (zs ++ xs).reverse), .val (.tup zs)], gl⟩) ?_ (by
          have z : acc ++ num (5 * zs.length + 3) ++ (l ++ m) = acc ++ (num (5 * zs.length + 3) ++ l ++ m) := by simp
          rw [← z]; exact w)⟩
        simp [-List.map_append, -List.reverse_append, l_pack_2, e1, e2, e3, e6, fIsi, asD, tyD, isTy, truthD, as_d, opRev, asInt, asTup]
theorem pack_spec {n : Nat} {x : D} {l : List Int} (gl : List MObj) (h : Pk n x l) (hl : l.length ≤ 100000) : f_pack [x] gl = .ok (.tup (IL l)) gl := by
  have hp : PkL n [x] l := by
    have := PkL.cons n x [] l [] h (.nil n)
    rwa [List.append_nil] at this
  obtain ⟨y', w⟩ := pack_loop x gl l.length n [x] l [] .none (Nat.le_refl _) hp (by simpa using hl)
  have w := wh_done w (by simp)
  simp at w
  simp [f_pack, mDef, List.replicate, b_pack, as_new, w, fTuple, asItems, asTup, asLst]
/-! ### the law's own writing -/
theorem lp_signs (l : List Int) (gl : List MObj) (hs : Sgs l) (hl : l.length ≤ 100000) (c1 c2 : Slot) : mComp [3] (iStrM (mVar 0)) (tgName 3) mYes e__law_pack_2 ⟨[.val (.str (txt l)), c1, c2, .none], gl⟩ = .ok (.new (.lst (IL l))) ⟨[.val (.str (txt l)), c1, c2, .none], gl⟩ := by
  refine comp_mapI l (fun i => .str ⟨#[sgn i]⟩) D.int (by simp [signs_txt]) (by simp) rfl (by omega) fun i hi => ?_
  have := index_ok i (hs i hi).1 (hs i hi).2
  unfold SG at this
  simp [e__law_pack_2, this]
def Hold (c : Slot) (acc : List Int) : Prop := c = .val (.lst (IL acc)) ∨ c = .own (.lst (IL acc))
theorem lp_loop (k : Nat) (gl : List MObj) (v0 : D) (ih : ∀ (x : D) (l : List Int), Pk k x l → l.length ≤ 100000 → f__law_pack k [x] gl = .ok (.lst (IL l)) gl) :
    ∀ (xs : List D) (l acc : List Int) (c y y3 : Slot), Hold c acc → PkL k xs l → acc.length + l.length ≤ 100000 → ∃ c' y', Hold c' (acc ++ l) ∧ forGo (tgName 2) (l__law_pack_1 (f__law_pack k)) xs ⟨[.val v0, c, y, y3], gl⟩ = .ok .nx ⟨[.val v0, c', y', y3], gl⟩
  | [], l, acc, c, y, y3, hc, h, hl => by
    cases h
    exact ⟨c, y, by rw [List.append_nil]; exact hc, by simp [forGo]⟩
  | x :: xs, l, acc, c, y, y3, hc, h, hl => by
    cases h with
    | cons _ _ _ l m a b =>
      rw [List.length_append] at hl
      have e1 := ih x l a (by omega)
      have a1 : ∀ s : S, asLst s (.at 1) = some (IL acc) → opAdd s (.at 1) (.d (.lst (IL l))) = .ok (.new (.lst (IL (acc ++ l)))) s := fun s h => q_addIL (by omega) h rfl
      have a2 : ∀ s : S, opAdd s (.d (.lst (IL acc))) (.d (.lst (IL l))) = .ok (.new (.lst (IL (acc ++ l)))) s := fun s => q_addIL (by omega) rfl rfl
      have st : l__law_pack_1 (f__law_pack k) ⟨[.val v0, c, .val x, y3], gl⟩ = .ok .nx ⟨[.val v0, .own (.lst (IL (acc ++ l))), .val x, y3], gl⟩ := by
        rcases hc with rfl | rfl
        · simp [-List.map_append, l__law_pack_1, e1, a2, asLst, as_new]
        · simp [-List.map_append, l__law_pack_1, e1, a1, asLst, as_new]
      obtain ⟨c', y', hc', w⟩ := lp_loop k gl v0 ih xs m (acc ++ l) (.own (.lst (IL (acc ++ l)))) (.val x) y3 (.inr rfl) b (by rw [List.length_append]; omega)
      refine ⟨c', y', by rw [← List.append_assoc]; exact hc', ?_⟩
      rw [forGo_cons, ap_tgName, as_d (by simp)]
      simp only [List.set_cons_succ, List.set_cons_zero, st]
      exact w
theorem law_pack_spec (gl : List MObj) : ∀ (k : Nat) (x : D) (l : List Int), Pk k x l → l.length ≤ 100000 → f__law_pack k [x] gl = .ok (.lst (IL l)) gl := by
  intro k
  induction k with
  | zero => intro x l h; cases h
  | succ k ih =>
    intro x l h hl
    cases h with
    | atom _ _ h e =>
      have e1 := lhead_atom x h gl e
      have e2 := law_number_spec h gl (hdA_lo e) (by omega)
      cases x with
      | non => simp [-List.map_append, f__law_pack, mDef, List.replicate, b__law_pack, e1, e2, fIsi, asD, tyD, isTy, truthD, as_d]
      | bl z => simp [-List.map_append, f__law_pack, mDef, List.replicate, b__law_pack, e1, e2, fIsi, asD, tyD, isTy, truthD, as_d]
      | int i => simp [-List.map_append, f__law_pack, mDef, List.replicate, b__law_pack, e1, e2, fIsi, asD, tyD, isTy, truthD, as_d]
      | _ => cases e
    | str _ l hs =>
      rw [List.length_append] at hl
      have e1 := lhead_str l gl (by omega)
      have e2 := law_number_spec (5 * l.length + 2) gl (by omega) (by omega)
      have e3 := lp_signs l gl hs (by omega)
      have a1 : ∀ s : S, opAdd s (.d (.lst (IL (num (5 * l.length + 2))))) (.new (.lst (IL l))) = .ok (.new (.lst (IL (num (5 * l.length + 2) ++ l)))) s := fun s => q_addIL (by omega) rfl rfl
      simp [-ap_Comp, -List.map_append, f__law_pack, mDef, List.replicate, b__law_pack, e1, e2, e3, a1, fIsi, asD, tyD, isTy, truthD, as_d, as_new]
    | tup _ xs l hx =>
      rw [List.length_append] at hl
      have e1 := lhead_tup xs gl
      have e2 := law_number_spec (5 * xs.length + 3) gl (by omega) (by omega)
      obtain ⟨c', y', hc', w⟩ := lp_loop k gl (.tup xs) ih xs l (num (5 * xs.length + 3)) (.val (.lst (IL (num (5 * xs.length + 3))))) .none .none (.inl rfl) hx (by omega)
      rcases hc' with rfl | rfl
      · simp [-List.map_append, f__law_pack, mDef, List.replicate, b__law_pack, e1, e2, w, fIsi, asD, tyD, isTy, truthD, as_d]
      · simp [-List.map_append, f__law_pack, mDef, List.replicate, b__law_pack, e1, e2, w, fIsi, asD, tyD, isTy, truthD, as_d]
end K18
/-! # k18: the law's own reader -/
namespace K18
open PySem PySem.Spec PyProof.Rows L2 MI
theorem sgs_long : ∀ (n : Nat) (r : List Int), r.length < n → sgs n r = match sgs r.length r with | .inl _ => .inr 0 | .inr e => .inr e
  | 0, r, h => by omega
  | n + 1, [], h => rfl
  | n + 1, b :: r, h => by
    simp only [List.length_cons] at h
    have ih := sgs_long n r (by omega)
    have e1 : sgs (n + 1) (b :: r) = if 40 ≤ b then .inr (r.length + 1) else match sgs n r with | .inl (s, r') => .inl (b :: s, r') | .inr e => .inr e := rfl
    have e2 : sgs (b :: r).length (b :: r) = if 40 ≤ b then .inr (r.length + 1) else match sgs r.length r with | .inl (s, r') => .inl (b :: s, r') | .inr e => .inr e := rfl
    rw [e1, e2]
    by_cases hb : 40 ≤ b
    · rw [if_pos hb, if_pos hb]
    · rw [if_neg hb, if_neg hb, ih]
      cases sgs r.length r with
      | inl z => rfl
      | inr e => rfl
theorem sgs_err : ∀ (n : Nat) (r : List Int) (e : Nat), sgs n r = .inr e → e ≤ r.length
  | 0, r, e, h => by cases h
  | n + 1, [], e, h => by cases h; omega
  | n + 1, b :: r, e, h => by
    unfold sgs at h
    split at h
    · cases h; simp
    · cases q : sgs n r with
      | inl z => rw [q] at h; cases h
      | inr e' =>
        rw [q] at h
        cases h
        have := sgs_err n r e q
        simp
        omega
theorem ix_ok {d r : List Int} {b : Int} (h : (b :: r) <:+ d) : ∀ s, opIx s (.d (.tup (IL d))) (.d (.int (pos d (b :: r)))) = .ok (.d (.int b)) s := fun s => q_ixT (atI_il (pos_lo h).1 (pos_get h))
theorem gd_loop (d : List Int) (gl : List MObj) : ∀ (r : List Int) (f : Int) (c1 c2 c5 c6 c7 : Slot), r <:+ d →
    match rdN r f with
    | some (n, r') => ∃ f' b', (b' :: r') <:+ d ∧ (∃ N, whileGo t__law_good_2 l__law_good_3 N ⟨[.val (.tup (IL d)), c1, c2, .val (.int (pos d r)), .val (.int f), c5, c6, c7], gl⟩ = .ok .nx ⟨[.val (.tup (IL d)), c1, c2, .val (.int (pos d (b' :: r'))), .val (.int f'), c5, c6, c7], gl⟩) ∧ f' * 128 + b' - 128 = n
    | none => ∃ f', ∃ N, whileGo t__law_good_2 l__law_good_3 N ⟨[.val (.tup (IL d)), c1, c2, .val (.int (pos d r)), .val (.int f), c5, c6, c7], gl⟩ = .ok .nx ⟨[.val (.tup (IL d)), c1, c2, .val (.int d.length), .val (.int f'), c5, c6, c7], gl⟩
  | [], f, c1, c2, c5, c6, c7, hs => by
    refine ⟨f, ?_⟩
    rw [pos_nil]
    exact wh_stop (by simp [t__law_good_2])
  | b :: r, f, c1, c2, c5, c6, c7, hs => by
    have p1 := pos_lt hs
    have ix := ix_ok hs
    by_cases h : 128 ≤ b
    · have hb : ¬ b < 128 := by omega
      simp only [rdN, h, if_true]
      exact ⟨f, b, hs, wh_stop (by simp [t__law_good_2, p1, ix, hb]), rfl⟩
    · have hb : b < 128 := by omega
      simp only [rdN, h, if_false]
      have ih := gd_loop d gl r (f * 128 + b) c1 c2 c5 c6 c7 (suf_tl hs)
      have lt : t__law_good_2 ⟨[.val (.tup (IL d)), c1, c2, .val (.int (pos d (b :: r))), .val (.int f), c5, c6, c7], gl⟩ = .ok true ⟨[.val (.tup (IL d)), c1, c2, .val (.int (pos d (b :: r))), .val (.int f), c5, c6, c7], gl⟩ := by
        simp [t__law_good_2, p1, ix, hb]
      have lb : l__law_good_3 ⟨[.val (.tup (IL d)), c1, c2, .val (.int (pos d (b :: r))), .val (.int f), c5, c6, c7], gl⟩ = .ok .nx ⟨[.val (.tup (IL d)), c1, c2, .val (.int (pos d r)), .val (.int (f * 128 + b)), c5, c6, c7], gl⟩ := by
        simp [l__law_good_3, q_mulR, as_d, pos_next, ix]
      cases q : rdN r (f * 128 + b) with
      | none =>
        rw [q] at ih
        obtain ⟨f', h⟩ := ih
        exact ⟨f', wh_step lt lb h⟩
      | some nq =>
        obtain ⟨n, r'⟩ := nq
        rw [q] at ih
        obtain ⟨f', b', h0, h1, h2⟩ := ih
        exact ⟨f', b', h0, wh_step lt lb h1, h2⟩
theorem gs_loop (d : List Int) (gl : List MObj) : ∀ (n : Nat) (r : List Int) (c1 c2 c3 c4 c5 c6 c7 : Slot), r <:+ d → n ≤ r.length →
    match sgs n r with
    | .inl _ => ∃ c7', forGo (tgName 7) l__law_good_1 (rangeD (pos d r) n) ⟨[.val (.tup (IL d)), c1, c2, c3, c4, c5, c6, c7], gl⟩ = .ok .nx ⟨[.val (.tup (IL d)), c1, c2, c3, c4, c5, c6, c7'], gl⟩
    | .inr e => ∃ z, forGo (tgName 7) l__law_good_1 (rangeD (pos d r) n) ⟨[.val (.tup (IL d)), c1, c2, c3, c4, c5, c6, c7], gl⟩ = .ok (.rt (.tup [.int ((d.length : Int) - e), .bl false])) ⟨z, gl⟩
  | 0, r, c1, c2, c3, c4, c5, c6, c7, hs, hn => ⟨c7, rfl⟩
  | n + 1, [], c1, c2, c3, c4, c5, c6, c7, hs, hn => by simp at hn
  | n + 1, b :: r, c1, c2, c3, c4, c5, c6, c7, hs, hn => by
    have ix := ix_ok hs
    have e0 : pos d (b :: r) = (d.length : Int) - ((r.length + 1 : Nat) : Int) := rfl
    have st : l__law_good_1 ⟨[.val (.tup (IL d)), c1, c2, c3, c4, c5, c6, .val (.int (pos d (b :: r)))], gl⟩ = if 40 ≤ b then .ok (.rt (.tup [.int (pos d (b :: r)), .bl false])) ⟨[.val (.tup (IL d)), c1, c2, c3, c4, c5, c6, .val (.int (pos d (b :: r)))], gl⟩ else .ok .nx ⟨[.val (.tup (IL d)), c1, c2, c3, c4, c5, c6, .val (.int (pos d (b :: r)))], gl⟩ := by
      by_cases hb : 40 ≤ b
      · have hb' : 39 < b := by omega
        simp [l__law_good_1, ix, hb, hb']
      · have hb' : ¬ 39 < b := by omega
        simp [l__law_good_1, ix, hb, hb']
    have go : ∀ y, forGo (tgName 7) l__law_good_1 (rangeD (pos d (b :: r)) (n + 1)) ⟨[.val (.tup (IL d)), c1, c2, c3, c4, c5, c6, c7], gl⟩ = y ↔ (match l__law_good_1 ⟨[.val (.tup (IL d)), c1, c2, c3, c4, c5, c6, .val (.int (pos d (b :: r)))], gl⟩ with
      | .ok .nx s2 => forGo (tgName 7) l__law_good_1 (rangeD (pos d r) n) s2
      | .ok .ct s2 => forGo (tgName 7) l__law_good_1 (rangeD (pos d r) n) s2
      | .ok .bk s2 => .ok .nx s2
      | r => r) = y := fun y => by
      rw [rangeD, forGo_cons, ap_tgName, as_d (by simp), pos_next]
      rfl
    by_cases hb : 40 ≤ b
    · rw [if_pos hb] at st
      have es : sgs (n + 1) (b :: r) = .inr (r.length + 1) := if_pos hb
      rw [es]
      refine ⟨[.val (.tup (IL d)), c1, c2, c3, c4, c5, c6, .val (.int (pos d (b :: r)))], (go _).mpr ?_⟩
      rw [st, e0]
    · rw [if_neg hb] at st
      have ih := gs_loop d gl n r c1 c2 c3 c4 c5 c6 (.val (.int (pos d (b :: r)))) (suf_tl hs) (by simpa using hn)
      have es : sgs (n + 1) (b :: r) = match sgs n r with | .inl (s, r') => .inl (b :: s, r') | .inr e => .inr e := if_neg hb
      rw [es]
      cases q : sgs n r with
      | inl z =>
        obtain ⟨s, r'⟩ := z
        rw [q] at ih
        obtain ⟨c7', h⟩ := ih
        refine ⟨c7', (go _).mpr ?_⟩
        rw [st]
        exact h
      | inr e =>
        rw [q] at ih
        obtain ⟨z, h⟩ := ih
        refine ⟨z, (go _).mpr ?_⟩
        rw [st]
        exact h
/-- the text part: its loop, by any wanted number of signs -/
theorem gs_part (d : List Int) (gl : List MObj) (hd : d.length ≤ 100000) (n : Nat) (r : List Int) (c1 c2 c3 c4 c5 c6 c7 : Slot) (hs : r <:+ d) :
    rng2 (pos d r) (minI (pos d r + n) d.length) = some (rangeD (pos d r) (min n r.length)) := by
  have p := pos_lo hs
  have pr : pos d r = (d.length : Int) - r.length := rfl
  have hm : minI (pos d r + n) d.length = pos d r + (min n r.length : Nat) := by
    unfold minI
    split <;> omega
  rw [hm, rng2_ok (by omega) (by omega) (by omega) (by omega)]
  congr 2
  omega
theorem h5 (h : Int) : h - h / 5 * 5 = h % 5 := by omega
theorem good_zero (d : List Int) (gl : List MObj) (r : List Int) (hs : r <:+ d) (c1 c4 c5 c6 c7 : Slot) :
    l__law_good_4 ⟨[.val (.tup (IL d)), c1, .val (.int 0), .val (.int (pos d r)), c4, c5, c6, c7], gl⟩ = .ok (.rt (.tup [.int (pos d r), .bl (decide (pos d r = d.length))])) ⟨[.val (.tup (IL d)), c1, .val (.int 0), .val (.int (pos d r)), c4, c5, c6, c7], gl⟩ := by
  simp [l__law_good_4]
  rfl
theorem good_nil (d : List Int) (gl : List MObj) (n : Nat) (c1 c4 c5 c6 c7 : Slot) :
    l__law_good_4 ⟨[.val (.tup (IL d)), c1, .val (.int ((n : Int) + 1)), .val (.int (pos d [])), c4, c5, c6, c7], gl⟩ = .ok (.rt (.tup [.int d.length, .bl false])) ⟨[.val (.tup (IL d)), c1, .val (.int ((n : Int) + 1)), .val (.int (pos d [])), c4, c5, c6, c7], gl⟩ := by
  have hn : ¬ ((n : Int) + 1 = 0) := by omega
  simp [l__law_good_4, pos_nil, hn]
theorem good_step (d : List Int) (gl : List MObj) (hd : d.length ≤ 100000) (hB : Byt d) (n : Nat) (b : Int) (r : List Int) (hs : (b :: r) <:+ d) (c1 c4 c5 c6 c7 : Slot) :
    match item (b :: r) with
    | .err e => ∃ z, l__law_good_4 ⟨[.val (.tup (IL d)), c1, .val (.int ((n : Int) + 1)), .val (.int (pos d (b :: r))), c4, c5, c6, c7], gl⟩ = .ok (.rt (.tup [.int ((d.length : Int) - e), .bl false])) ⟨z, gl⟩
    | .val x r' => r' <:+ d ∧ ∃ c4' c5' c6' c7', l__law_good_4 ⟨[.val (.tup (IL d)), c1, .val (.int ((n : Int) + 1)), .val (.int (pos d (b :: r))), c4, c5, c6, c7], gl⟩ = .ok .nx ⟨[.val (.tup (IL d)), c1, .val (.int n), .val (.int (pos d r')), c4', c5', c6', c7'], gl⟩
    | .op s r' => r' <:+ d ∧ ∃ c4' c5' c6' c7', l__law_good_4 ⟨[.val (.tup (IL d)), c1, .val (.int ((n : Int) + 1)), .val (.int (pos d (b :: r))), c4, c5, c6, c7], gl⟩ = .ok .nx ⟨[.val (.tup (IL d)), c1, .val (.int ((n + s : Nat) : Int)), .val (.int (pos d r')), c4', c5', c6', c7'], gl⟩ := by
  have hn : ¬ ((n : Int) + 1 = 0) := by omega
  have p1 := pos_lt hs
  have p1' : ¬ ((d.length : Int) ≤ pos d (b :: r)) := by omega
  have ix := ix_ok hs
  unfold item
  by_cases hb : b = 0
  · subst hb
    have e0 : pos d (0 :: r) = (d.length : Int) - ((r.length + 1 : Nat) : Int) := rfl
    simp only [rd, if_true]
    refine ⟨[.val (.tup (IL d)), c1, .val (.int ((n : Int) + 1)), .val (.int (pos d (0 :: r))), c4, c5, c6, c7], ?_⟩
    rw [← e0]
    simp [l__law_good_4, hn, p1', ix]
  · simp only [rd, hb, if_false]
    have lp := gd_loop d gl (b :: r) 0 c1 (.val (.int ((n : Int) + 1))) c5 c6 c7 hs
    cases q : rdN (b :: r) 0 with
    | none =>
      rw [q] at lp
      obtain ⟨f', w⟩ := lp
      have w := wh_done w (by simp)
      refine ⟨[.val (.tup (IL d)), c1, .val (.int ((n : Int) + 1)), .val (.int d.length), .val (.int f'), c5, c6, c7], ?_⟩
      simp [l__law_good_4, hn, p1', ix, hb, as_d, w]
    | some z =>
      obtain ⟨h, r'⟩ := z
      rw [q] at lp
      obtain ⟨f', b', hs', w, he⟩ := lp
      have w := wh_done w (by simp)
      have hs2 := suf_tl hs'
      have ix' := ix_ok hs'
      have p2 := pos_lt hs'
      have p2' : ¬ ((d.length : Int) ≤ pos d (b' :: r')) := by omega
      have h0 : 0 ≤ h := by
        have rr : rd (b :: r) = .inl (h, r') := by simp only [rd, hb, if_false, q]
        have bb : Byt (b :: r) := fun x m => hB x (hs.subset m)
        exact (rd_inv _ _ _ bb rr).2
      simp only
      by_cases k3 : h % 5 = 3
      · rw [if_pos k3]
        refine ⟨hs2, .val (.int h), .val (.int 3), .val (.int (h / 5)), c7, ?_⟩
        have en : (n : Int) + 1 + h / 5 - 1 = ((n + (h / 5).toNat : Nat) : Int) := by omega
        simp [l__law_good_4, hn, p1', ix, hb, as_d, w, p2', ix', q_mulR, he, pos_next, q_fdiv, h5, k3]
        omega
      · rw [if_neg k3]
        by_cases k2 : h % 5 = 2
        · rw [if_pos k2]
          have hz : ((h / 5).toNat : Int) = h / 5 := by omega
          have gp := gs_part d gl hd (h / 5).toNat r' c1 (.val (.int ((n : Int) + 1))) (.val (.int (pos d r'))) (.val (.int h)) (.val (.int 2)) (.val (.int (h / 5))) c7 hs2
          rw [hz] at gp
          have gs := gs_loop d gl (min (h / 5).toNat r'.length) r' c1 (.val (.int ((n : Int) + 1))) (.val (.int (pos d r'))) (.val (.int h)) (.val (.int 2)) (.val (.int (h / 5))) c7 hs2 (Nat.min_le_right _ _)
          have pr : pos d r' = (d.length : Int) - r'.length := rfl
          by_cases hl : r'.length < (h / 5).toNat
          · rw [Nat.min_eq_right (by omega)] at gs gp
            rw [sgs_long _ _ hl]
            have over : (d.length : Int) < pos d r' + h / 5 := by omega
            cases qs : sgs r'.length r' with
            | inl z =>
              rw [qs] at gs
              obtain ⟨c7', g⟩ := gs
              refine ⟨[.val (.tup (IL d)), c1, .val (.int ((n : Int) + 1)), .val (.int (pos d r')), .val (.int h), .val (.int 2), .val (.int (h / 5)), c7'], ?_⟩
              simp [l__law_good_4, hn, p1', ix, hb, as_d, w, p2', ix', q_mulR, he, pos_next, q_fdiv, h5, k2, gp, g, over]
            | inr e =>
              rw [qs] at gs
              obtain ⟨z, g⟩ := gs
              refine ⟨z, ?_⟩
              simp [l__law_good_4, hn, p1', ix, hb, as_d, w, p2', ix', q_mulR, he, pos_next, q_fdiv, h5, k2, gp, g, over]
          · rw [Nat.min_eq_left (by omega)] at gs gp
            have over : ¬ (d.length : Int) < pos d r' + h / 5 := by omega
            cases qs : sgs (h / 5).toNat r' with
            | inl z =>
              obtain ⟨s, r2⟩ := z
              rw [qs] at gs
              obtain ⟨c7', g⟩ := gs
              obtain ⟨k1, k4, _⟩ := sgs_inl _ _ _ _ qs
              have hs3 : r2 <:+ d := by rw [k1] at hs2; exact suf_app hs2
              have ep : pos d r' + h / 5 = pos d r2 := by
                have := congrArg List.length k1
                rw [List.length_append] at this
                unfold pos
                omega
              refine ⟨hs3, .val (.int h), .val (.int 2), .val (.int (h / 5)), c7', ?_⟩
              simp [l__law_good_4, hn, p1', ix, hb, as_d, w, p2', ix', q_mulR, he, pos_next, q_fdiv, h5, k2, gp, g, over]
              exact ep
            | inr e =>
              rw [qs] at gs
              obtain ⟨z, g⟩ := gs
              refine ⟨z, ?_⟩
              simp [l__law_good_4, hn, p1', ix, hb, as_d, w, p2', ix', q_mulR, he, pos_next, q_fdiv, h5, k2, gp, g, over]
        · rw [if_neg k2]
          by_cases k0 : h % 5 = 0
          · rw [if_pos k0]
            refine ⟨hs2, .val (.int h), .val (.int 0), .val (.int (h / 5)), c7, ?_⟩
            simp [l__law_good_4, hn, p1', ix, hb, as_d, w, p2', ix', q_mulR, he, pos_next, q_fdiv, h5, k0]
          · rw [if_neg k0]
            by_cases k1 : h % 5 = 1
            · rw [if_pos k1]
              refine ⟨hs2, .val (.int h), .val (.int 1), .val (.int (h / 5)), c7, ?_⟩
              simp [l__law_good_4, hn, p1', ix, hb, as_d, w, p2', ix', q_mulR, he, pos_next, q_fdiv, h5, k1]
            · rw [if_neg k1]
              have k4 : h % 5 = 4 := by omega
              by_cases hl : h / 5 ≤ 2
              · rw [if_pos hl]
                have hl' : ¬ 2 < h / 5 := by omega
                refine ⟨hs2, .val (.int h), .val (.int 4), .val (.int (h / 5)), c7, ?_⟩
                simp [l__law_good_4, hn, p1', ix, hb, as_d, w, p2', ix', q_mulR, he, pos_next, q_fdiv, h5, k4, hl']
              · rw [if_neg hl]
                have hl' : 2 < h / 5 := by omega
                have ep : pos d r' - 1 = (d.length : Int) - ((r'.length + 1 : Nat) : Int) := by unfold pos; omega
                refine ⟨[.val (.tup (IL d)), c1, .val (.int ((n : Int) + 1)), .val (.int (pos d r')), .val (.int h), .val (.int 4), .val (.int (h / 5)), c7], ?_⟩
                rw [← ep]
                simp [l__law_good_4, hn, p1', ix, hb, as_d, w, p2', ix', q_mulR, he, pos_next, q_fdiv, h5, k4, hl']
def gres (d : List Int) : Option Nat → D
  | none => .tup [.int d.length, .bl true]
  | some e => .tup [.int ((d.length : Int) - e), .bl false]
theorem good_loop (d : List Int) (gl : List MObj) (hd : d.length ≤ 100000) (hB : Byt d) : ∀ {n : Nat} {r : List Int} {o : Option Nat}, GR n r o → ∀ (R : List D) (c1 c4 c5 c6 c7 : Slot), r <:+ d → r.length + 1 ≤ R.length →
    ∃ z, forGo (tgName 1) l__law_good_4 R ⟨[.val (.tup (IL d)), c1, .val (.int n), .val (.int (pos d r)), c4, c5, c6, c7], gl⟩ = .ok (.rt (gres d o)) ⟨z, gl⟩ := by
  intro n r o g
  induction g with
  | fin =>
    intro R c1 c4 c5 c6 c7 hs hl
    cases R with
    | nil => simp at hl
    | cons x R =>
      refine ⟨[.val (.tup (IL d)), .val x, .val (.int 0), .val (.int (pos d [])), c4, c5, c6, c7], ?_⟩
      rw [forGo_cons, ap_tgName, as_d (by simp)]
      have := good_zero d gl [] hs (.val x) c4 c5 c6 c7
      rw [pos_nil] at this ⊢
      simp only [List.set_cons_succ, List.set_cons_zero, Int.natCast_zero, this, decide_true]
      rfl
  | more r hr =>
    intro R c1 c4 c5 c6 c7 hs hl
    cases R with
    | nil => simp at hl
    | cons x R =>
      refine ⟨[.val (.tup (IL d)), .val x, .val (.int 0), .val (.int (pos d r)), c4, c5, c6, c7], ?_⟩
      rw [forGo_cons, ap_tgName, as_d (by simp)]
      have := good_zero d gl r hs (.val x) c4 c5 c6 c7
      have hp := List.length_pos_iff.mpr hr
      have e : decide (pos d r = d.length) = false := decide_eq_false (by unfold pos; omega)
      simp only [List.set_cons_succ, List.set_cons_zero, Int.natCast_zero, this, e]
      rfl
  | err n r e he =>
    intro R c1 c4 c5 c6 c7 hs hl
    cases R with
    | nil => simp at hl
    | cons x R =>
      cases r with
      | nil =>
        cases he
        refine ⟨[.val (.tup (IL d)), .val x, .val (.int ((n : Int) + 1)), .val (.int (pos d [])), c4, c5, c6, c7], ?_⟩
        rw [forGo_cons, ap_tgName, as_d (by simp)]
        have := good_nil d gl n (.val x) c4 c5 c6 c7
        simp only [List.set_cons_succ, List.set_cons_zero, Int.natCast_succ, this]
        simp [gres]
      | cons b r =>
        have st := good_step d gl hd hB n b r hs (.val x) c4 c5 c6 c7
        rw [he] at st
        obtain ⟨z, st⟩ := st
        refine ⟨z, ?_⟩
        rw [forGo_cons, ap_tgName, as_d (by simp)]
        simp only [List.set_cons_succ, List.set_cons_zero, Int.natCast_succ, st]
        rfl
  | val n r x r' o he hg ih =>
    intro R c1 c4 c5 c6 c7 hs hl
    cases R with
    | nil => simp at hl
    | cons y R =>
      cases r with
      | nil => cases he
      | cons b r =>
        have st := good_step d gl hd hB n b r hs (.val y) c4 c5 c6 c7
        rw [he] at st
        obtain ⟨hs', c4', c5', c6', c7', st⟩ := st
        have hl' : r'.length < (b :: r).length := by
          obtain ⟨c, h1, _, _, h3⟩ := item_val _ x r' (fun z m => hB z (hs.subset m)) he
          have := List.length_pos_iff.mpr h3
          rw [h1, List.length_append]
          omega
        obtain ⟨z, w⟩ := ih R (.val y) c4' c5' c6' c7' hs' (by simp only [List.length_cons] at hl hl' ⊢; omega)
        refine ⟨z, ?_⟩
        rw [forGo_cons, ap_tgName, as_d (by simp)]
        simp only [List.set_cons_succ, List.set_cons_zero, Int.natCast_succ, st]
        exact w
  | op n r s r' o he hg ih =>
    intro R c1 c4 c5 c6 c7 hs hl
    cases R with
    | nil => simp at hl
    | cons y R =>
      cases r with
      | nil => cases he
      | cons b r =>
        have st := good_step d gl hd hB n b r hs (.val y) c4 c5 c6 c7
        rw [he] at st
        obtain ⟨hs', c4', c5', c6', c7', st⟩ := st
        have hl' : r'.length < (b :: r).length := by
          have h1 := item_op _ s r' (fun z m => hB z (hs.subset m)) he
          have := num_pos (5 * s + 3)
          rw [h1, List.length_append]
          omega
        obtain ⟨z, w⟩ := ih R (.val y) c4' c5' c6' c7' hs' (by simp only [List.length_cons] at hl hl' ⊢; omega)
        refine ⟨z, ?_⟩
        rw [forGo_cons, ap_tgName, as_d (by simp)]
        simp only [List.set_cons_succ, List.set_cons_zero, Int.natCast_succ, st]
        exact w
theorem good_spec (d : List Int) (gl : List MObj) (hd : d.length ≤ 100000) (hB : Byt d) (o : Option Nat) (g : GR 1 d o) :
    f__law_good [.tup (IL d)] gl = .ok (gres d o) gl := by
  obtain ⟨z, w⟩ := good_loop d gl hd hB g (rangeD 0 (d.length + 2)) .none .none .none .none .none (List.suffix_refl d) (by rw [rangeD_length]; omega)
  have e0 : pos d d = 0 := by unfold pos; omega
  have hr : rng1 ((d.length : Int) + 2) = some (rangeD 0 (d.length + 2)) := rng1_nat (n := d.length + 2) (by omega)
  rw [e0] at w
  simp at w
  simp [f__law_good, mDef, List.replicate, b__law_good, as_d, hr, w]
end K18
/-! # k18: reading signs, bare values -/
namespace K18
open PySem PySem.Spec PyProof.Rows L2 MI
theorem sg_len : SG.cps.toList.length = 40 := by decide +kernel
theorem sg_size : SG.length = 40 := by decide +kernel
theorem sg_at (b : Int) (h0 : 0 ≤ b) (h1 : b < 40) : atI SG.cps.toList b = some (sgn b) := by
  unfold atI ixN
  rw [if_pos h0, sg_len, if_pos (by omega)]
  show SG.cps.toList[b.toNat]? = _
  have hl : b.toNat < SG.cps.toList.length := by rw [sg_len]; omega
  rw [List.getElem?_eq_getElem hl]
  unfold sgn
  rw [List.getD_eq_getElem?_getD, List.getElem?_eq_getElem hl]
  rfl
theorem ix_sg (b : Int) (h0 : 0 ≤ b) (h1 : b < 40) (s : S) : opIx s (.d (.str SG)) (.d (.int b)) = .ok (.d (.str ⟨#[sgn b]⟩)) s := by
  have hl : SG.length ≤ sizeLine := by rw [sg_size]; exact szN _ (by omega)
  simp only [opIx, asInt, asTup, asLst, asStr, hl, if_true, sg_at b h0 h1]
theorem len_sg (s : S) : fLen s (.d (.str SG)) = .ok (.d (.int 40)) s := by
  have hl : SG.length ≤ sizeLine := by rw [sg_size]; exact szN _ (by omega)
  simp only [fLen, asD, Option.bind_some, lenD, hl, if_true, sg_size]
  rfl
abbrev sD (b : Int) : D := .str ⟨#[sgn b]⟩
theorem rs_loop (d : List Int) (gl : List MObj) (hd : d.length ≤ 100000) (hB : Byt d) : ∀ (n : Nat) (r acc : List Int) (c1 c2 c4 : Slot), r <:+ d → n ≤ r.length → acc.length + n ≤ 100000 →
    match sgs n r with
    | .inl (s, _) => ∃ c4', forGo (tgName 4) l_read_signs_1 (rangeD (pos d r) n) ⟨[.val (.tup (IL d)), c1, c2, .own (.lst (acc.map sD)), c4], gl⟩ = .ok .nx ⟨[.val (.tup (IL d)), c1, c2, .own (.lst ((acc ++ s).map sD)), c4'], gl⟩
    | .inr e => ∃ z, forGo (tgName 4) l_read_signs_1 (rangeD (pos d r) n) ⟨[.val (.tup (IL d)), c1, c2, .own (.lst (acc.map sD)), c4], gl⟩ = .exc "BadBytes" (bad d e) ⟨z, gl⟩
  | 0, r, acc, c1, c2, c4, hs, hn, ha => ⟨c4, by rw [List.append_nil]; rfl⟩
  | n + 1, [], acc, c1, c2, c4, hs, hn, ha => by simp at hn
  | n + 1, b :: r, acc, c1, c2, c4, hs, hn, ha => by
    have ix := ix_ok hs
    have e0 : pos d (b :: r) = (d.length : Int) - ((r.length + 1 : Nat) : Int) := rfl
    have b0 := hB b (hs.subset List.mem_cons_self)
    have pl := pos_lo hs
    have p2 : (pos d (b :: r)).natAbs ≤ 1000000 := by omega
    have ls := len_sg
    unfold SG at ls
    have st : l_read_signs_1 ⟨[.val (.tup (IL d)), c1, c2, .own (.lst (acc.map sD)), .val (.int (pos d (b :: r)))], gl⟩ = if 40 ≤ b then .exc "BadBytes" (.tup [.str "place", .int (pos d (b :: r))]) ⟨[.val (.tup (IL d)), c1, c2, .own (.lst (acc.map sD)), .val (.int (pos d (b :: r)))], gl⟩ else .ok .nx ⟨[.val (.tup (IL d)), c1, c2, .own (.lst ((acc ++ [b]).map sD)), .val (.int (pos d (b :: r)))], gl⟩ := by
      by_cases hb : 40 ≤ b
      · simp [l_read_signs_1, ix, hb, ls, p2]
      · have i2 := ix_sg b b0.1 (by omega)
        unfold SG at i2
        have fa := fApp_ok (acc.map sD) (sD b) (by simp only [List.length_map]; omega)
        have fe : acc.map sD ++ [sD b] = (acc ++ [b]).map sD := by simp
        rw [fe] at fa
        simp [-List.map_append, l_read_signs_1, ix, hb, ls, i2, fa]
    have go : ∀ y, forGo (tgName 4) l_read_signs_1 (rangeD (pos d (b :: r)) (n + 1)) ⟨[.val (.tup (IL d)), c1, c2, .own (.lst (acc.map sD)), c4], gl⟩ = y ↔ (match l_read_signs_1 ⟨[.val (.tup (IL d)), c1, c2, .own (.lst (acc.map sD)), .val (.int (pos d (b :: r)))], gl⟩ with
      | .ok .nx s2 => forGo (tgName 4) l_read_signs_1 (rangeD (pos d r) n) s2
      | .ok .ct s2 => forGo (tgName 4) l_read_signs_1 (rangeD (pos d r) n) s2
      | .ok .bk s2 => .ok .nx s2
      | r => r) = y := fun y => by
      rw [rangeD, forGo_cons, ap_tgName, as_d (by simp), pos_next]
      rfl
    by_cases hb : 40 ≤ b
    · rw [if_pos hb] at st
      have es : sgs (n + 1) (b :: r) = .inr (r.length + 1) := if_pos hb
      rw [es]
      refine ⟨[.val (.tup (IL d)), c1, c2, .own (.lst (acc.map sD)), .val (.int (pos d (b :: r)))], (go _).mpr ?_⟩
      rw [st, e0]
    · rw [if_neg hb] at st
      have ih := rs_loop d gl hd hB n r (acc ++ [b]) c1 c2 (.val (.int (pos d (b :: r)))) (suf_tl hs) (by simpa using hn) (by simp; omega)
      have es : sgs (n + 1) (b :: r) = match sgs n r with | .inl (s, r') => .inl (b :: s, r') | .inr e => .inr e := if_neg hb
      rw [es]
      cases q : sgs n r with
      | inl z =>
        obtain ⟨s, r'⟩ := z
        rw [q] at ih
        obtain ⟨c4', h⟩ := ih
        refine ⟨c4', (go _).mpr ?_⟩
        rw [st]
        refine h.trans ?_
        rw [List.append_assoc]
        rfl
      | inr e =>
        rw [q] at ih
        obtain ⟨z, h⟩ := ih
        refine ⟨z, (go _).mpr ?_⟩
        rw [st]
        exact h
theorem strsOf_map : ∀ l : List Int, strsOf (l.map sD) = some (l.map fun b => (⟨#[sgn b]⟩ : Str))
  | [] => rfl
  | b :: l => by
    show (strsOf (l.map sD)).map _ = _
    rw [strsOf_map l]
    rfl
theorem join_txt : ∀ l : List Int, Str.join Str.empty (l.map fun b => (⟨#[sgn b]⟩ : Str)) = txt l
  | [] => rfl
  | [b] => rfl
  | b :: c :: l => by
    have ih := join_txt (c :: l)
    show (⟨#[sgn b]⟩ : Str) ++ Str.empty ++ Str.join Str.empty ((c :: l).map fun b => (⟨#[sgn b]⟩ : Str)) = _
    rw [ih]
    show (⟨(#[sgn b] ++ #[]) ++ ((c :: l).map sgn).toArray⟩ : Str) = ⟨((b :: c :: l).map sgn).toArray⟩
    congr 1
    simp
theorem join_ok (l : List Int) (hl : l.length ≤ 100000) : fJoin "" (.lst (l.map sD)) = some (.str (txt l)) := by
  have ej : Txt.join "" (l.map fun b => (⟨#[sgn b]⟩ : Str)) = txt l := by
    have := join_plain_closes "" (l.map fun b => (⟨#[sgn b]⟩ : Str))
    rw [eq_of_beq this]
    exact join_txt l
  have hs : ((l.map fun b => (⟨#[sgn b]⟩ : Str)).map (·.length)).sum = l.length := by
    rw [List.map_map]
    clear ej hl
    induction l with
    | nil => rfl
    | cons b l ih =>
      rw [List.map_cons, List.sum_cons, ih, List.length_cons]
      show 1 + _ = _
      omega
  show joinD "" (l.map sD) = _
  unfold joinD
  rw [strsOf_map]
  simp only
  rw [if_pos ?_, ej]
  rw [hs, List.length_map]
  have : (("" : Str).length) = 0 := rfl
  rw [this]
  omega
theorem read_signs_spec (d : List Int) (gl : List MObj) (hd : d.length ≤ 100000) (hB : Byt d) (n : Nat) (r : List Int) (hs : r <:+ d) :
    match sgs n r with
    | .inl (s, _) => f_read_signs [.tup (IL d), .int (pos d r), .int n] gl = .ok (.str (txt s)) gl
    | .inr e => f_read_signs [.tup (IL d), .int (pos d r), .int n] gl = .exc "BadBytes" (bad d e) gl := by
  have gp := gs_part d gl hd n r .none .none .none .none .none .none .none hs
  have hr := hs.length_le
  have lp := rs_loop d gl hd hB (min n r.length) r [] (.val (.int (pos d r))) (.val (.int n)) .none hs (Nat.min_le_right _ _) (by simp; omega)
  have pl := pos_lo hs
  by_cases hl : r.length < n
  · rw [Nat.min_eq_right (by omega)] at gp lp
    rw [sgs_long _ _ hl]
    cases qs : sgs r.length r with
    | inl z =>
      obtain ⟨s, r'⟩ := z
      rw [qs] at lp
      obtain ⟨c4', w⟩ := lp
      obtain ⟨_, k2, _⟩ := sgs_inl _ _ _ _ qs
      have sh : s.length < n := by omega
      have dl : d.length ≤ 1000000 := by omega
      simp only [List.nil_append, List.map_nil] at w
      simp [f_read_signs, mDef, List.replicate, b_read_signs, as_new, gp, w, fLen, asD, lenD, sh, dl, bad]
    | inr e =>
      rw [qs] at lp
      obtain ⟨z, w⟩ := lp
      simp only [List.map_nil] at w
      simp [f_read_signs, mDef, List.replicate, b_read_signs, as_new, gp, w, fLen, asD, lenD]
  · rw [Nat.min_eq_left (by omega)] at gp lp
    cases qs : sgs n r with
    | inl z =>
      obtain ⟨s, r'⟩ := z
      rw [qs] at lp
      obtain ⟨c4', w⟩ := lp
      obtain ⟨_, k2, _⟩ := sgs_inl _ _ _ _ qs
      have sh : ¬ s.length < n := by omega
      simp only [List.nil_append, List.map_nil] at w
      have jo := join_ok s (by omega)
      simp [f_read_signs, mDef, List.replicate, b_read_signs, as_new, gp, w, fLen, asD, lenD, sh, jo]
    | inr e =>
      rw [qs] at lp
      obtain ⟨z, w⟩ := lp
      simp only [List.map_nil] at w
      simp [f_read_signs, mDef, List.replicate, b_read_signs, as_new, gp, w, fLen, asD, lenD]
theorem bare0 (d : List Int) (gl : List MObj) (z : Int) (p : Int) : f_read_bare [.tup (IL d), .int 0, .int z, .int p] gl = .ok (.int z) gl := by
  simp [f_read_bare, mDef, b_read_bare]
theorem bare1 (d : List Int) (gl : List MObj) (z : Int) (p : Int) : f_read_bare [.tup (IL d), .int 1, .int z, .int p] gl = .ok (.int (-1 - z)) gl := by
  simp [f_read_bare, mDef, b_read_bare]
theorem bare2 (d : List Int) (gl : List MObj) (z : Int) (p : Int) : f_read_bare [.tup (IL d), .int 2, .int z, .int p] gl = (match f_read_signs [.tup (IL d), .int p, .int z] gl with | .ok x g => .ok x g | .exc c q g => .exc c q g | .stuck => .stuck) := by
  cases h : f_read_signs [.tup (IL d), .int p, .int z] gl <;> simp [f_read_bare, mDef, b_read_bare, h]
theorem bare4 (d : List Int) (gl : List MObj) (z : Int) (p : Int) (h0 : 0 ≤ z) (h2 : z ≤ 2) : f_read_bare [.tup (IL d), .int 4, .int z, .int p] gl = .ok (bare z) gl := by
  have h3 : ¬ 3 ≤ z := by omega
  have : z = 0 ∨ z = 1 ∨ z = 2 := by omega
  have ix : ∀ s, opIx s (.d (.tup [.non, .bl false, .bl true])) (.d (.int z)) = .ok (.d (bare z)) s := fun s => by
    rcases this with rfl | rfl | rfl <;> exact q_ixT rfl
  simp [f_read_bare, mDef, b_read_bare, h3, ix]
theorem bare4x (d : List Int) (gl : List MObj) (z : Int) (p : Int) (h2 : ¬ z ≤ 2) (hp : (p - 1).natAbs ≤ 1000000) : f_read_bare [.tup (IL d), .int 4, .int z, .int p] gl = .exc "BadBytes" (.tup [.str "place", .int (p - 1)]) gl := by
  have h3 : 3 ≤ z := by omega
  simp [f_read_bare, mDef, b_read_bare, h3, hp]
end K18
/-! # k18: unpack -/
namespace K18
open PySem PySem.Spec PyProof.Rows L2 MI
/-- a frame: how many it wants, its cell, what it has -/
structure Fr where
  s : Nat
  n : Nat
  ps : List D
def fD (f : Fr) : D := .tup [.int f.s, .ref f.n]
def FD (F : List Fr) : List D := (F.map fD).reverse
theorem FD_cons (f : Fr) (F : List Fr) : FD (f :: F) = FD F ++ [fD f] := by unfold FD; simp
structure Inv (m : Nat) (gl0 gl : List MObj) (F : List Fr) : Prop where
  at_ : ∀ f ∈ F, gl[f.n]? = some (.lst f.ps)
  dec : F.Pairwise fun f g => g.n < f.n
  lo : ∀ f ∈ F, m ≤ f.n
  hm : m ≤ gl.length
  keep : ∀ i, i < m → gl[i]? = gl0[i]?
theorem Inv.top {m : Nat} {gl0 gl : List MObj} {f : Fr} {F : List Fr} (I : Inv m gl0 gl (f :: F)) (x : D) : Inv m gl0 (gl.set f.n (.lst (f.ps ++ [x]))) ({ f with ps := f.ps ++ [x] } :: F) := by
  have hf := I.at_ f List.mem_cons_self
  have hl : f.n < gl.length := (List.getElem?_eq_some_iff.mp hf).1
  have dc := List.pairwise_cons.mp I.dec
  refine ⟨fun g hg => ?_, List.pairwise_cons.mpr ⟨fun g hg => dc.1 g hg, dc.2⟩, fun g hg => ?_, by rw [List.length_set]; exact I.hm, fun i hi => ?_⟩
  · rcases List.mem_cons.mp hg with rfl | hg
    · exact List.getElem?_set_self hl
    · have := dc.1 g hg
      rw [List.getElem?_set_ne (by omega)]
      exact I.at_ g (List.mem_cons_of_mem _ hg)
  · rcases List.mem_cons.mp hg with rfl | hg
    · exact I.lo f List.mem_cons_self
    · exact I.lo g (List.mem_cons_of_mem _ hg)
  · have := I.lo f List.mem_cons_self
    rw [List.getElem?_set_ne (by omega)]
    exact I.keep i hi
theorem Inv.tail {m : Nat} {gl0 gl : List MObj} {f : Fr} {F : List Fr} (I : Inv m gl0 gl (f :: F)) : Inv m gl0 gl F :=
  ⟨fun g hg => I.at_ g (List.mem_cons_of_mem _ hg), (List.pairwise_cons.mp I.dec).2, fun g hg => I.lo g (List.mem_cons_of_mem _ hg), I.hm, I.keep⟩
theorem Inv.push {m : Nat} {gl0 gl : List MObj} {F : List Fr} (I : Inv m gl0 gl F) (s : Nat) : Inv m gl0 (gl ++ [.lst []]) (⟨s, gl.length, []⟩ :: F) := by
  have hl : ∀ f ∈ F, f.n < gl.length := fun f hf => (List.getElem?_eq_some_iff.mp (I.at_ f hf)).1
  refine ⟨fun g hg => ?_, List.pairwise_cons.mpr ⟨fun g hg => hl g hg, I.dec⟩, fun g hg => ?_, by rw [List.length_append]; exact Nat.le_trans I.hm (Nat.le_add_right _ _), fun i hi => ?_⟩
  · rcases List.mem_cons.mp hg with rfl | hg
    · rw [List.getElem?_append_right (Nat.le_refl _)]; simp
    · rw [List.getElem?_append_left (hl g hg)]
      exact I.at_ g hg
  · rcases List.mem_cons.mp hg with rfl | hg
    · exact I.hm
    · exact I.lo g hg
  · rw [List.getElem?_append_left (by have := I.hm; omega)]
    exact I.keep i hi
/-- full frames are closed -/
def clos : List Fr → List Fr
  | f :: g :: F => if f.ps.length = f.s then clos ({ g with ps := g.ps ++ [.tup f.ps] } :: F) else f :: g :: F
  | [f] => [f]
  | [] => []
termination_by F => F.length
decreasing_by simp
theorem clos_two (f g : Fr) (F : List Fr) : clos (f :: g :: F) = if f.ps.length = f.s then clos ({ g with ps := g.ps ++ [.tup f.ps] } :: F) else f :: g :: F := by rw [clos]
theorem clos_one (f : Fr) : clos [f] = [f] := by rw [clos]
theorem atI_last (xs : List D) (x : D) : atI (xs ++ [x]) (-1) = some x := by
  unfold atI ixN
  simp
  have : (-1 + ((xs.length : Int) + 1)).toNat = xs.length := by omega
  rw [if_pos (by omega)]
  simp [this]
theorem FD_len (F : List Fr) : (FD F).length = F.length := by unfold FD; simp
theorem close_test (d : D) (f : Fr) (F : List Fr) (gl : List MObj) (h : gl[f.n]? = some (.lst f.ps)) (c2 c3 c4 c5 c6 : Slot) :
    t_unpack_1 ⟨[.val d, .own (.lst (FD (f :: F))), c2, c3, c4, c5, c6], gl⟩ = .ok (decide (0 < F.length) && decide (f.ps.length = f.s)) ⟨[.val d, .own (.lst (FD (f :: F))), c2, c3, c4, c5, c6], gl⟩ := by
  have ix : ∀ s : S, asLst s (.at 1) = some (FD (f :: F)) → opIx s (.at 1) (.d (.int (-1))) = .ok (.d (fD f)) s := fun s h => q_ixL h (by rw [FD_cons]; exact atI_last _ _)
  have i1 : ∀ s, opIx s (.d (fD f)) (.d (.int 1)) = .ok (.d (.ref f.n)) s := fun s => q_ixT rfl
  have i0 : ∀ s, opIx s (.d (fD f)) (.d (.int 0)) = .ok (.d (.int f.s)) s := fun s => q_ixT rfl
  have ln : (FD (f :: F)).length = F.length + 1 := FD_len _
  generalize hFD : FD (f :: F) = L at ix ln ⊢
  by_cases h0 : 0 < F.length
  · have h1 : (1 : Int) < (L.length : Int) := by omega
    by_cases hp : f.ps.length = f.s
    · simp [t_unpack_1, fLen, asD, lenD, h1, ix, i1, i0, asLst, h, hp, h0]
    · have hp' : ¬ ((f.ps.length : Int) = f.s) := by omega
      simp [t_unpack_1, fLen, asD, lenD, h1, ix, i1, i0, asLst, h, hp, hp', h0]
  · have h1 : ¬ ((1 : Int) < (L.length : Int)) := by omega
    simp [t_unpack_1, fLen, asD, lenD, h1, h0]
theorem close_body (d : D) (f g : Fr) (F : List Fr) (gl : List MObj) (h : gl[f.n]? = some (.lst f.ps)) (h2 : gl[g.n]? = some (.lst g.ps)) (hz : g.ps.length < 1000000) (c2 c3 c4 c5 c6 : Slot) :
    l_unpack_2 ⟨[.val d, .own (.lst (FD (f :: g :: F))), c2, c3, c4, c5, c6], gl⟩ = .ok .nx ⟨[.val d, .own (.lst (FD (g :: F))), c2, c3, c4, c5, .val (.ref f.n)], gl.set g.n (.lst (g.ps ++ [.tup f.ps]))⟩ := by
  have pe : fPop (FD (f :: g :: F)) = some (fD f, FD (g :: F)) := by rw [FD_cons]; exact fPop_snoc _ _
  have ix : ∀ s : S, asLst s (.at 1) = some (FD (g :: F)) → opIx s (.at 1) (.d (.int (-1))) = .ok (.d (fD g)) s := fun s h => q_ixL h (by rw [FD_cons]; exact atI_last _ _)
  have i1 : ∀ s, opIx s (.d (fD f)) (.d (.int 1)) = .ok (.d (.ref f.n)) s := fun s => q_ixT rfl
  have i2 : ∀ s, opIx s (.d (fD g)) (.d (.int 1)) = .ok (.d (.ref g.n)) s := fun s => q_ixT rfl
  have fa := fApp_ok g.ps (.tup f.ps) hz
  generalize FD (f :: g :: F) = L at pe ⊢
  generalize FD (g :: F) = L2 at pe ix ⊢
  simp [l_unpack_2, pe, i1, as_d, ix, i2, asLst, h2, fTuple, asItems, asTup, h, fa]
def sz (F : List Fr) : Nat := (F.map fun f => f.ps.length + 1).sum
theorem sz_cons (f : Fr) (F : List Fr) : sz (f :: F) = f.ps.length + 1 + sz F := by unfold sz; rw [List.map_cons, List.sum_cons]
theorem sz_snoc (f : Fr) (F : List Fr) (x : D) : sz ({ f with ps := f.ps ++ [x] } :: F) = sz (f :: F) + 1 := by rw [sz_cons, sz_cons]; simp; omega
theorem close_loop (d : D) (m : Nat) (gl0 : List MObj) : ∀ (k : Nat) (f : Fr) (F : List Fr) (gl : List MObj) (c2 c3 c4 c5 c6 : Slot), F.length ≤ k → Inv m gl0 gl (f :: F) → sz (f :: F) ≤ 900000 →
    ∃ gl' c6', (∃ N, whileGo t_unpack_1 l_unpack_2 N ⟨[.val d, .own (.lst (FD (f :: F))), c2, c3, c4, c5, c6], gl⟩ = .ok .nx ⟨[.val d, .own (.lst (FD (clos (f :: F)))), c2, c3, c4, c5, c6'], gl'⟩) ∧ Inv m gl0 gl' (clos (f :: F)) ∧ sz (clos (f :: F)) ≤ sz (f :: F) := by
  intro k
  induction k with
  | zero =>
    intro f F gl c2 c3 c4 c5 c6 hk I hz
    have : F = [] := List.eq_nil_of_length_eq_zero (by omega)
    subst this
    rw [clos_one]
    exact ⟨gl, c6, wh_stop ((close_test d f [] gl (I.at_ f List.mem_cons_self) c2 c3 c4 c5 c6).trans (by simp)), I, Nat.le_refl _⟩
  | succ k ih =>
    intro f F gl c2 c3 c4 c5 c6 hk I hz
    cases F with
    | nil =>
      rw [clos_one]
      exact ⟨gl, c6, wh_stop ((close_test d f [] gl (I.at_ f List.mem_cons_self) c2 c3 c4 c5 c6).trans (by simp)), I, Nat.le_refl _⟩
    | cons g F =>
      have ct := close_test d f (g :: F) gl (I.at_ f List.mem_cons_self) c2 c3 c4 c5 c6
      rw [clos_two]
      by_cases hp : f.ps.length = f.s
      · rw [if_pos hp]
        have e1 := sz_cons f (g :: F)
        have e2 := sz_snoc g F (.tup f.ps)
        have e3 := sz_cons g F
        have cb := close_body d f g F gl (I.at_ f List.mem_cons_self) (I.at_ g (by simp)) (by omega) c2 c3 c4 c5 c6
        have I2 := I.tail.top (.tup f.ps)
        obtain ⟨gl', c6', w, I', z'⟩ := ih { g with ps := g.ps ++ [.tup f.ps] } F _ c2 c3 c4 c5 (.val (.ref f.n)) (by simpa using hk) I2 (by omega)
        exact ⟨gl', c6', wh_step (ct.trans (by simp [hp])) cb w, I', by omega⟩
      · rw [if_neg hp]
        exact ⟨gl, c6, wh_stop (ct.trans (by simp [hp])), I, Nat.le_refl _⟩
/-! ### what the frames say -/
def nd : List Fr → Int
  | [] => 1
  | f :: F => (f.s : Int) - f.ps.length - 1 + nd F
def Bt : List Fr → Prop
  | [] => False
  | [f] => f.s = 1
  | _ :: F => Bt F
def Op (F : List Fr) : Prop := ∀ f ∈ F, f.ps.length < f.s
theorem nd_op : ∀ {F : List Fr}, Op F → 1 ≤ nd F
  | [], _ => by show (1 : Int) ≤ 1; omega
  | f :: F, h => by
    have h1 := h f List.mem_cons_self
    have h2 := nd_op (F := F) fun g m => h g (List.mem_cons_of_mem _ m)
    show (1 : Int) ≤ (f.s : Int) - f.ps.length - 1 + nd F
    omega
def Dn (F : List Fr) : Prop := ∃ j x, F = [⟨1, j, [x]⟩]
theorem nd_dn {F : List Fr} (h : Dn F) : nd F = 0 := by
  obtain ⟨j, x, rfl⟩ := h
  rfl
inductive PkS (N : Nat) : List Fr → List Int → Prop
  | one (f : Fr) (c : List Int) : PkL N f.ps c → PkS N [f] c
  | more (f g : Fr) (F : List Fr) (c c' : List Int) : PkS N (g :: F) c → PkL (N - (F.length + 1)) f.ps c' → PkS N (f :: g :: F) (c ++ (num (5 * f.s + 3) ++ c'))
theorem PkS.snoc {N : Nat} {f : Fr} {F : List Fr} {c l : List Int} {x : D} (h : PkS N (f :: F) c) (hx : Pk (N - F.length) x l) : PkS N ({ f with ps := f.ps ++ [x] } :: F) (c ++ l) := by
  cases h with
  | one _ _ h => exact .one _ _ (PkL.snoc hx h)
  | more _ g F c c' h h' =>
    rw [List.append_assoc, List.append_assoc]
    exact .more _ g F c _ h (PkL.snoc hx h')
/-- what closing keeps -/
theorem clos_ok (N : Nat) : ∀ (k : Nat) (f : Fr) (F : List Fr) (c : List Int), F.length ≤ k → Bt (f :: F) → f.ps.length ≤ f.s → Op F → PkS N (f :: F) c → (f :: F).length ≤ N →
    (Op (clos (f :: F)) ∨ Dn (clos (f :: F))) ∧ nd (clos (f :: F)) = nd (f :: F) ∧ Bt (clos (f :: F)) ∧ PkS N (clos (f :: F)) c ∧ (clos (f :: F)).length ≤ (f :: F).length := by
  intro k
  induction k with
  | zero =>
    intro f F c hk hb hf ho hp hN
    have : F = [] := List.eq_nil_of_length_eq_zero (by omega)
    subst this
    rw [clos_one]
    refine ⟨?_, rfl, hb, hp, Nat.le_refl _⟩
    have h1 : f.s = 1 := hb
    by_cases h : f.ps.length < f.s
    · exact .inl fun g hg => by
        rcases List.mem_cons.mp hg with rfl | hg
        · exact h
        · cases hg
    · obtain ⟨s, n, ps⟩ := f
      simp only at h1 hf h
      subst h1
      match ps, hf, h with
      | [x], _, _ => exact .inr ⟨n, x, rfl⟩
      | [], _, h => simp at h
      | _ :: _ :: _, h, _ => simp at h
  | succ k ih =>
    intro f F c hk hb hf ho hp hN
    cases F with
    | nil =>
      rw [clos_one]
      refine ⟨?_, rfl, hb, hp, Nat.le_refl _⟩
      have h1 : f.s = 1 := hb
      by_cases h : f.ps.length < f.s
      · exact .inl fun g hg => by
          rcases List.mem_cons.mp hg with rfl | hg
          · exact h
          · cases hg
      · obtain ⟨s, n, ps⟩ := f
        simp only at h1 hf h
        subst h1
        match ps, hf, h with
        | [x], _, _ => exact .inr ⟨n, x, rfl⟩
        | [], _, h => simp at h
        | _ :: _ :: _, h, _ => simp at h
    | cons g F =>
      rw [clos_two]
      have og := ho g List.mem_cons_self
      by_cases he : f.ps.length = f.s
      · rw [if_pos he]
        have hN' : F.length + 2 ≤ N := by simpa using hN
        cases hp with
        | more _ _ _ c c' h h' =>
          have hx : Pk (N - F.length) (.tup f.ps) (num (5 * f.s + 3) ++ c') := by
            have e : N - F.length = N - (F.length + 1) + 1 := by omega
            rw [e, ← he]
            exact .tup _ f.ps c' h'
          have hb' : Bt ({ g with ps := g.ps ++ [.tup f.ps] } :: F) := by
            cases F with
            | nil => exact hb
            | cons => exact hb
          obtain ⟨r1, r2, r3, r4, r5⟩ := ih { g with ps := g.ps ++ [.tup f.ps] } F _ (by simpa using hk) hb' (by simp; omega) (fun z m => ho z (List.mem_cons_of_mem _ m)) (h.snoc hx) (by simp; omega)
          refine ⟨r1, r2.trans ?_, r3, r4, Nat.le_trans r5 (by simp)⟩
          show (g.s : Int) - ((g.ps ++ [D.tup f.ps]).length : Nat) - 1 + nd F = (f.s : Int) - f.ps.length - 1 + ((g.s : Int) - g.ps.length - 1 + nd F)
          simp
          omega
      · rw [if_neg he]
        refine ⟨.inl fun z hz => ?_, rfl, hb, hp, Nat.le_refl _⟩
        rcases List.mem_cons.mp hz with rfl | hz
        · omega
        · exact ho z hz
end K18
/-! # k18: unpack, its loop -/
namespace K18
open PySem PySem.Spec PyProof.Rows L2 MI
theorem atI_zero (f : Fr) : atI (FD [f]) 0 = some (fD f) := rfl
theorem test_op (d : D) (f : Fr) (F : List Fr) (gl : List MObj) (h : gl[f.n]? = some (.lst f.ps)) (hb : Bt (f :: F)) (ho : Op (f :: F)) (c2 c3 c4 c5 c6 : Slot) :
    t_unpack_3 ⟨[.val d, .own (.lst (FD (f :: F))), c2, c3, c4, c5, c6], gl⟩ = .ok true ⟨[.val d, .own (.lst (FD (f :: F))), c2, c3, c4, c5, c6], gl⟩ := by
  have ln : (FD (f :: F)).length = F.length + 1 := FD_len _
  cases F with
  | nil =>
    have h1 : f.s = 1 := hb
    have h2 := ho f List.mem_cons_self
    have hp : f.ps = [] := List.eq_nil_of_length_eq_zero (by omega)
    have ix : ∀ s : S, asLst s (.at 1) = some (FD [f]) → opIx s (.at 1) (.d (.int 0)) = .ok (.d (fD f)) s := fun s h => q_ixL h (atI_zero f)
    have i1 : ∀ s, opIx s (.d (fD f)) (.d (.int 1)) = .ok (.d (.ref f.n)) s := fun s => q_ixT rfl
    rw [hp] at h
    generalize FD [f] = L at ix ln ⊢
    have h1 : ¬ ((1 : Int) < (L.length : Int)) := by simp at ln; omega
    simp [t_unpack_3, fLen, asD, lenD, h1, ix, i1, asLst, h]
  | cons g F =>
    generalize FD (f :: g :: F) = L at ln ⊢
    have h1 : (1 : Int) < (L.length : Int) := by simp at ln; omega
    simp [t_unpack_3, fLen, asD, lenD, h1]
theorem test_dn (d : D) (j : Nat) (x : D) (gl : List MObj) (h : gl[j]? = some (.lst [x])) (c2 c3 c4 c5 c6 : Slot) :
    t_unpack_3 ⟨[.val d, .own (.lst (FD [⟨1, j, [x]⟩])), c2, c3, c4, c5, c6], gl⟩ = .ok false ⟨[.val d, .own (.lst (FD [⟨1, j, [x]⟩])), c2, c3, c4, c5, c6], gl⟩ := by
  have ix : ∀ s : S, asLst s (.at 1) = some (FD [⟨1, j, [x]⟩]) → opIx s (.at 1) (.d (.int 0)) = .ok (.d (fD ⟨1, j, [x]⟩)) s := fun s h => q_ixL h (atI_zero _)
  have i1 : ∀ s, opIx s (.d (fD ⟨1, j, [x]⟩)) (.d (.int 1)) = .ok (.d (.ref j)) s := fun s => q_ixT rfl
  have ln : (FD [⟨1, j, [x]⟩]).length = 1 := rfl
  generalize FD [⟨1, j, [x]⟩] = L at ix ln ⊢
  have h1 : ¬ ((1 : Int) < (L.length : Int)) := by omega
  simp [t_unpack_3, fLen, asD, lenD, h1, ix, i1, asLst, h]
theorem up_err (d : List Int) (gl : List MObj) (hd : d.length ≤ 100000) (hB : Byt d) (f : Fr) (F : List Fr) (r : List Int) (e : Nat) (hs : r <:+ d) (he : item r = .err e) (hg : gl[f.n]? = some (.lst f.ps)) (c3 c4 c5 c6 : Slot) :
    ∃ z, l_unpack_4 ⟨[.val (.tup (IL d)), .own (.lst (FD (f :: F))), .val (.int (pos d r)), c3, c4, c5, c6], gl⟩ = .exc "BadBytes" (bad d e) ⟨z, gl⟩ := by
  have rn := read_number_spec gl hd hs
  unfold item at he
  cases q : rd r with
  | inr e' =>
    rw [q] at rn he
    cases he
    obtain ⟨_, rn⟩ := rn
    refine ⟨[.val (.tup (IL d)), .own (.lst (FD (f :: F))), .val (.int (pos d r)), c3, c4, c5, c6], ?_⟩
    simp [l_unpack_4, rn]
  | inl z =>
    obtain ⟨h, r'⟩ := z
    rw [q] at rn he
    simp only at he rn
    obtain ⟨hs2, rn⟩ := rn
    have h0 := (rd_inv _ _ _ (fun x m => hB x (hs.subset m)) q).2
    have ix : ∀ s : S, asLst s (.at 1) = some (FD (f :: F)) → opIx s (.at 1) (.d (.int (-1))) = .ok (.d (fD f)) s := fun s h => q_ixL h (by rw [FD_cons]; exact atI_last _ _)
    have i2 : ∀ s, opIx s (.d (fD f)) (.d (.int 1)) = .ok (.d (.ref f.n)) s := fun s => q_ixT rfl
    generalize FD (f :: F) = L at ix ⊢
    by_cases k3 : h % 5 = 3
    · rw [if_pos k3] at he; cases he
    · rw [if_neg k3] at he
      refine ⟨[.val (.tup (IL d)), .own (.lst L), .val (.int (pos d r')), .val (.int h), .val (.int (h % 5)), .val (.int (h / 5)), c6], ?_⟩
      by_cases k2 : h % 5 = 2
      · rw [if_pos k2] at he
        have rs := read_signs_spec d gl hd hB (h / 5).toNat r' hs2
        have hz : ((h / 5).toNat : Int) = h / 5 := by omega
        rw [hz] at rs
        have b2 := bare2 d gl (h / 5) (pos d r')
        cases qs : sgs (h / 5).toNat r' with
        | inl z => rw [qs] at he; cases he
        | inr e' =>
          rw [qs] at he rs
          cases he
          simp only at rs
          rw [rs] at b2
          simp [l_unpack_4, asInt, rn, as_d, q_mod, q_fdiv, k2, ix, i2, asLst, hg, b2]
      · rw [if_neg k2] at he
        by_cases k0 : h % 5 = 0
        · rw [if_pos k0] at he; cases he
        · rw [if_neg k0] at he
          by_cases k1 : h % 5 = 1
          · rw [if_pos k1] at he; cases he
          · rw [if_neg k1] at he
            have k4 : h % 5 = 4 := by omega
            by_cases hl : h / 5 ≤ 2
            · rw [if_pos hl] at he; cases he
            · rw [if_neg hl] at he
              cases he
              have pl := pos_lo hs2
              have b4 := bare4x d gl (h / 5) (pos d r') hl (by omega)
              have ep : pos d r' - 1 = (d.length : Int) - ((r'.length + 1 : Nat) : Int) := by unfold pos; omega
              rw [ep] at b4
              simp [l_unpack_4, asInt, rn, as_d, q_mod, q_fdiv, k4, ix, i2, asLst, hg, b4, bad]
theorem up_val (d : List Int) (m : Nat) (gl0 gl : List MObj) (hd : d.length ≤ 100000) (hB : Byt d) (f : Fr) (F : List Fr) (r : List Int) (x : D) (r' : List Int) (hs : r <:+ d) (he : item r = .val x r') (I : Inv m gl0 gl (f :: F)) (hz : sz (f :: F) < 800000) (c3 c4 c5 c6 : Slot) :
    r' <:+ d ∧ ∃ gl' c3' c4' c5' c6', l_unpack_4 ⟨[.val (.tup (IL d)), .own (.lst (FD (f :: F))), .val (.int (pos d r)), c3, c4, c5, c6], gl⟩ = .ok .nx ⟨[.val (.tup (IL d)), .own (.lst (FD (clos ({ f with ps := f.ps ++ [x] } :: F)))), .val (.int (pos d r')), c3', c4', c5', c6'], gl'⟩ ∧
      Inv m gl0 gl' (clos ({ f with ps := f.ps ++ [x] } :: F)) ∧ sz (clos ({ f with ps := f.ps ++ [x] } :: F)) ≤ sz (f :: F) + 1 := by
  have rn := read_number_spec gl hd hs
  have hg := I.at_ f List.mem_cons_self
  unfold item at he
  cases q : rd r with
  | inr e' => rw [q] at he; cases he
  | inl z =>
    obtain ⟨h, r1⟩ := z
    rw [q] at rn he
    simp only at he rn
    obtain ⟨hs2, rn⟩ := rn
    have h0 := (rd_inv _ _ _ (fun x m => hB x (hs.subset m)) q).2
    have ix : ∀ s : S, asLst s (.at 1) = some (FD (f :: F)) → opIx s (.at 1) (.d (.int (-1))) = .ok (.d (fD f)) s := fun s h => q_ixL h (by rw [FD_cons]; exact atI_last _ _)
    have i2 : ∀ s, opIx s (.d (fD f)) (.d (.int 1)) = .ok (.d (.ref f.n)) s := fun s => q_ixT rfl
    have z1 := sz_cons f F
    have fa := fApp_ok f.ps x (by omega)
    have z2 := sz_snoc f F x
    have I2 := I.top x
    have cl := fun c2 c3 c4 c5 c6 => close_loop (.tup (IL d)) m gl0 F.length { f with ps := f.ps ++ [x] } F _ c2 c3 c4 c5 c6 (Nat.le_refl _) I2 (by omega)
    have by3 : ∀ (k : Int) (p2 : List Int), h % 5 = k → k ≠ 3 → k = 0 ∨ k = 1 ∨ k = 4 → p2 = r1 → f_read_bare [.tup (IL d), .int k, .int (h / 5), .int (pos d r1)] gl = .ok x gl → r1 = r' →
        r' <:+ d ∧ ∃ gl' c3' c4' c5' c6', l_unpack_4 ⟨[.val (.tup (IL d)), .own (.lst (FD (f :: F))), .val (.int (pos d r)), c3, c4, c5, c6], gl⟩ = .ok .nx ⟨[.val (.tup (IL d)), .own (.lst (FD (clos ({ f with ps := f.ps ++ [x] } :: F)))), .val (.int (pos d r')), c3', c4', c5', c6'], gl'⟩ ∧
          Inv m gl0 gl' (clos ({ f with ps := f.ps ++ [x] } :: F)) ∧ sz (clos ({ f with ps := f.ps ++ [x] } :: F)) ≤ sz (f :: F) + 1 := by
      intro k p2 hk k3 k2 _ hbare er
      subst er
      obtain ⟨gl', c6', w, I', zz⟩ := cl (.val (.int (pos d r1))) (.val (.int h)) (.val (.int k)) (.val (.int (h / 5))) c6
      have w := wh_done w (by simp)
      refine ⟨hs2, gl', .val (.int h), .val (.int k), .val (.int (h / 5)), c6', ?_, I', by omega⟩
      have w' : mWhile t_unpack_1 l_unpack_2 ⟨[.val (.tup (IL d)), .own (.lst (FD (f :: F))), .val (.int (pos d r1)), .val (.int h), .val (.int k), .val (.int (h / 5)), c6], gl.set f.n (.lst (f.ps ++ [x]))⟩ = _ := w
      clear w
      generalize FD (clos ({ f with ps := f.ps ++ [x] } :: F)) = L2 at w' ⊢
      generalize FD (f :: F) = L at ix w' ⊢
      have k22 : ¬ k = 2 := by omega
      simp [l_unpack_4, asInt, rn, as_d, q_mod, q_fdiv, hk, k3, k22, ix, i2, asLst, hg, hbare, fa, w']
    by_cases k3 : h % 5 = 3
    · rw [if_pos k3] at he; cases he
    · rw [if_neg k3] at he
      by_cases k2 : h % 5 = 2
      · rw [if_pos k2] at he
        have rs := read_signs_spec d gl hd hB (h / 5).toNat r1 hs2
        have hzz : ((h / 5).toNat : Int) = h / 5 := by omega
        rw [hzz] at rs
        have b2 := bare2 d gl (h / 5) (pos d r1)
        cases qs : sgs (h / 5).toNat r1 with
        | inr e' => rw [qs] at he; cases he
        | inl z =>
          obtain ⟨s, r2⟩ := z
          rw [qs] at he rs
          simp only at rs he
          rw [rs] at b2
          have ex := (It.val.inj he).1
          have er := (It.val.inj he).2
          subst ex er
          obtain ⟨k1, k4, _⟩ := sgs_inl _ _ _ _ qs
          have hs3 : r2 <:+ d := by rw [k1] at hs2; exact suf_app hs2
          have ep : pos d r1 + h / 5 = pos d r2 := by
            have := congrArg List.length k1
            rw [List.length_append] at this
            unfold pos
            omega
          obtain ⟨gl', c6', w, I', zz⟩ := cl (.val (.int (pos d r2))) (.val (.int h)) (.val (.int 2)) (.val (.int (h / 5))) c6
          have w := wh_done w (by simp)
          refine ⟨hs3, gl', .val (.int h), .val (.int 2), .val (.int (h / 5)), c6', ?_, I', by omega⟩
          have w' : mWhile t_unpack_1 l_unpack_2 ⟨[.val (.tup (IL d)), .own (.lst (FD (f :: F))), .val (.int (pos d r2)), .val (.int h), .val (.int 2), .val (.int (h / 5)), c6], gl.set f.n (.lst (f.ps ++ [.str (txt s)]))⟩ = _ := w
          clear w
          generalize FD (clos ({ f with ps := f.ps ++ [.str (txt s)] } :: F)) = L2 at w' ⊢
          generalize FD (f :: F) = L at ix w' ⊢
          simp [l_unpack_4, asInt, rn, as_d, q_mod, q_fdiv, k2, ix, i2, asLst, hg, b2, fa, ep, w']
      · rw [if_neg k2] at he
        by_cases k0 : h % 5 = 0
        · rw [if_pos k0] at he
          cases he
          exact by3 0 _ k0 (by omega) (by omega) rfl (bare0 d gl (h / 5) _) rfl
        · rw [if_neg k0] at he
          by_cases k1 : h % 5 = 1
          · rw [if_pos k1] at he
            cases he
            exact by3 1 _ k1 (by omega) (by omega) rfl (bare1 d gl (h / 5) _) rfl
          · rw [if_neg k1] at he
            have k4 : h % 5 = 4 := by omega
            by_cases hl : h / 5 ≤ 2
            · rw [if_pos hl] at he
              cases he
              exact by3 4 _ k4 (by omega) (by omega) rfl (bare4 d gl (h / 5) _ (by omega) hl) rfl
            · rw [if_neg hl] at he; cases he
theorem up_op (d : List Int) (m : Nat) (gl0 gl : List MObj) (hd : d.length ≤ 100000) (hB : Byt d) (f : Fr) (F : List Fr) (r : List Int) (s : Nat) (r' : List Int) (hs : r <:+ d) (he : item r = .op s r') (I : Inv m gl0 gl (f :: F)) (hz : sz (f :: F) < 800000) (c3 c4 c5 c6 : Slot) :
    r' <:+ d ∧ ∃ gl' c3' c4' c5' c6', l_unpack_4 ⟨[.val (.tup (IL d)), .own (.lst (FD (f :: F))), .val (.int (pos d r)), c3, c4, c5, c6], gl⟩ = .ok .nx ⟨[.val (.tup (IL d)), .own (.lst (FD (clos (⟨s, gl.length, []⟩ :: f :: F)))), .val (.int (pos d r')), c3', c4', c5', c6'], gl'⟩ ∧
      Inv m gl0 gl' (clos (⟨s, gl.length, []⟩ :: f :: F)) ∧ sz (clos (⟨s, gl.length, []⟩ :: f :: F)) ≤ sz (f :: F) + 1 := by
  have rn := read_number_spec gl hd hs
  unfold item at he
  cases q : rd r with
  | inr e' => rw [q] at he; cases he
  | inl z =>
    obtain ⟨h, r1⟩ := z
    rw [q] at rn he
    simp only at he rn
    obtain ⟨hs2, rn⟩ := rn
    have h0 := (rd_inv _ _ _ (fun x m => hB x (hs.subset m)) q).2
    have k3 : h % 5 = 3 := by
      by_cases k3 : h % 5 = 3
      · exact k3
      · rw [if_neg k3] at he
        split at he
        · split at he <;> cases he
        · split at he
          · cases he
          · split at he
            · cases he
            · split at he <;> cases he
    rw [if_pos k3] at he
    have es := (It.op.inj he).1
    have er := (It.op.inj he).2
    subst er
    have hzz : (s : Int) = h / 5 := by omega
    have lF : (FD (f :: F)).length < 1000000 := by
      rw [FD_len]
      have : ∀ F : List Fr, F.length ≤ sz F := fun F => by
        induction F with
        | nil => exact Nat.le_refl _
        | cons a F ih => rw [sz_cons, List.length_cons]; omega
      have := this (f :: F)
      omega
    have fa := fApp_ok (FD (f :: F)) (.tup [.int (h / 5), .ref gl.length]) lF
    have fe : FD (f :: F) ++ [.tup [.int (h / 5), .ref gl.length]] = FD (⟨s, gl.length, []⟩ :: f :: F) := by
      rw [← hzz]
      exact (FD_cons ⟨s, gl.length, []⟩ (f :: F)).symm
    rw [fe] at fa
    have z1 := sz_cons ⟨s, gl.length, []⟩ (f :: F)
    have I2 := I.push s
    have zp : sz (⟨s, gl.length, []⟩ :: f :: F) = sz (f :: F) + 1 := by rw [z1]; simp; omega
    obtain ⟨gl', c6', w, I', zz⟩ := close_loop (.tup (IL d)) m gl0 (f :: F).length ⟨s, gl.length, []⟩ (f :: F) _ (.val (.int (pos d r1))) (.val (.int h)) (.val (.int 3)) (.val (.int (h / 5))) c6 (Nat.le_refl _) I2 (by omega)
    have w := wh_done w (by simp)
    refine ⟨hs2, gl', .val (.int h), .val (.int 3), .val (.int (h / 5)), c6', ?_, I', by omega⟩
    generalize FD (clos (⟨s, gl.length, []⟩ :: f :: F)) = L3 at w ⊢
    generalize FD (⟨s, gl.length, []⟩ :: f :: F) = L2 at w fa
    generalize FD (f :: F) = L at fa ⊢
    simp [l_unpack_4, asInt, rn, as_d, q_mod, q_fdiv, k3, asLst, fa, w]
theorem bt_push (f : Fr) {F : List Fr} (h : Bt F) : Bt (f :: F) := by
  cases F with
  | nil => exact h.elim
  | cons => exact h
theorem bt_top {f : Fr} {F : List Fr} (h : Bt (f :: F)) (x : List D) : Bt ({ f with ps := x } :: F) := by
  cases F with
  | nil => exact h
  | cons => exact h
/-- the whole loop -/
theorem up_loop (d : List Int) (m : Nat) (gl0 : List MObj) (N : Nat) (hd : d.length ≤ 100000) (hB : Byt d) : ∀ {n : Nat} {r : List Int} {o : Option Nat}, GR n r o → ∀ (F : List Fr) (gl : List MObj) (cc : List Int) (c3 c4 c5 c6 : Slot),
    Inv m gl0 gl F → Bt F → (Op F ∨ Dn F) → nd F = n → PkS N F cc → d = cc ++ r → F.length + big r ≤ N → sz F + r.length ≤ d.length + 1 →
    (∃ e, o = some e ∧ ∃ z gl', (∀ i, i < m → gl'[i]? = gl0[i]?) ∧ m ≤ gl'.length ∧ ∃ K, whileGo t_unpack_3 l_unpack_4 K ⟨[.val (.tup (IL d)), .own (.lst (FD F)), .val (.int (pos d r)), c3, c4, c5, c6], gl⟩ = .exc "BadBytes" (bad d e) ⟨z, gl'⟩) ∨
    (∃ x r' j c3' c4' c5' c6' gl' cc', (∃ K, whileGo t_unpack_3 l_unpack_4 K ⟨[.val (.tup (IL d)), .own (.lst (FD F)), .val (.int (pos d r)), c3, c4, c5, c6], gl⟩ = .ok .nx ⟨[.val (.tup (IL d)), .own (.lst (FD [⟨1, j, [x]⟩])), .val (.int (pos d r')), c3', c4', c5', c6'], gl'⟩) ∧
      Inv m gl0 gl' [⟨1, j, [x]⟩] ∧ Pk N x cc' ∧ d = cc' ++ r' ∧ ((o = none ∧ r' = []) ∨ (o = some r'.length ∧ r' ≠ []))) := by
  intro n r o g
  have stop : ∀ (r : List Int) (o : Option Nat) (F : List Fr) (gl : List MObj) (cc : List Int) (c3 c4 c5 c6 : Slot), Inv m gl0 gl F → (Op F ∨ Dn F) → nd F = 0 → PkS N F cc → d = cc ++ r → ((o = none ∧ r = []) ∨ (o = some r.length ∧ r ≠ [])) →
      (∃ x r' j c3' c4' c5' c6' gl' cc', (∃ K, whileGo t_unpack_3 l_unpack_4 K ⟨[.val (.tup (IL d)), .own (.lst (FD F)), .val (.int (pos d r)), c3, c4, c5, c6], gl⟩ = .ok .nx ⟨[.val (.tup (IL d)), .own (.lst (FD [⟨1, j, [x]⟩])), .val (.int (pos d r')), c3', c4', c5', c6'], gl'⟩) ∧
      Inv m gl0 gl' [⟨1, j, [x]⟩] ∧ Pk N x cc' ∧ d = cc' ++ r' ∧ ((o = none ∧ r' = []) ∨ (o = some r'.length ∧ r' ≠ []))) := by
    intro r o F gl cc c3 c4 c5 c6 I ho hn hp hdr hr
    rcases ho with ho | ho
    · have := nd_op ho
      omega
    · obtain ⟨j, x, rfl⟩ := ho
      cases hp with
      | one _ _ h =>
        cases h with
        | cons _ _ _ l l2 a b =>
          cases b
          rw [List.append_nil] at hdr
          exact ⟨x, r, j, c3, c4, c5, c6, gl, l, wh_stop (test_dn _ j x gl (I.at_ _ List.mem_cons_self) _ _ _ _ _), I, a, hdr, hr⟩
  induction g with
  | fin =>
    intro F gl cc c3 c4 c5 c6 I hb ho hn hp hdr hN hz
    exact .inr (stop [] none F gl cc c3 c4 c5 c6 I ho (by simpa using hn) hp hdr (.inl ⟨rfl, rfl⟩))
  | more r hr =>
    intro F gl cc c3 c4 c5 c6 I hb ho hn hp hdr hN hz
    exact .inr (stop r _ F gl cc c3 c4 c5 c6 I ho (by simpa using hn) hp hdr (.inr ⟨rfl, hr⟩))
  | err n r e he =>
    intro F gl cc c3 c4 c5 c6 I hb ho hn hp hdr hN hz
    have ho : Op F := by
      rcases ho with ho | ho
      · exact ho
      · have := nd_dn ho
        omega
    cases F with
    | nil => exact hb.elim
    | cons f F =>
      obtain ⟨z, st⟩ := up_err d gl hd hB f F r e ⟨cc, hdr.symm⟩ he (I.at_ f List.mem_cons_self) c3 c4 c5 c6
      exact .inl ⟨e, rfl, z, gl, I.keep, I.hm, wh_exc (test_op _ f F gl (I.at_ f List.mem_cons_self) hb ho _ _ _ _ _) st⟩
  | val n r x r' o he hg ih =>
    intro F gl cc c3 c4 c5 c6 I hb ho hn hp hdr hN hz
    have ho : Op F := by
      rcases ho with ho | ho
      · exact ho
      · have := nd_dn ho
        omega
    cases F with
    | nil => exact hb.elim
    | cons f F =>
      have hs : r <:+ d := ⟨cc, hdr.symm⟩
      obtain ⟨cx, h1, h2, h3, h4⟩ := item_val r x r' (fun z m => hB z (hs.subset m)) he
      have h4' := List.length_pos_iff.mpr h4
      have l1 := congrArg List.length h1
      have l2 := congrArg big h1
      rw [List.length_append] at l1
      rw [big_app] at l2
      have ld := congrArg List.length hdr
      rw [List.length_append] at ld
      have hN' : F.length + 1 + big r ≤ N := by simpa using hN
      obtain ⟨hs', gl', c3', c4', c5', c6', st, I', zz⟩ := up_val d m gl0 gl hd hB f F r x r' hs he I (by omega) c3 c4 c5 c6
      have hf := ho f List.mem_cons_self
      obtain ⟨q1, q2, q3, q4, q5⟩ := clos_ok N F.length { f with ps := f.ps ++ [x] } F (cc ++ cx) (Nat.le_refl _) (bt_top hb _) (by simp; omega) (fun z m => ho z (List.mem_cons_of_mem _ m)) (hp.snoc (by
        have e : N - F.length = (N - F.length - 1) + 1 := by omega
        rw [e]
        exact h2 _)) (by simp; omega)
      have en : nd (clos ({ f with ps := f.ps ++ [x] } :: F)) = n := by
        rw [q2]
        have : nd (f :: F) = (f.s : Int) - f.ps.length - 1 + nd F := rfl
        show (f.s : Int) - ((f.ps ++ [x]).length : Nat) - 1 + nd F = n
        rw [this] at hn
        simp
        omega
      have res := ih (clos ({ f with ps := f.ps ++ [x] } :: F)) gl' (cc ++ cx) c3' c4' c5' c6' I' q3 q1 en q4 (by rw [hdr, h1, List.append_assoc]) (by simp only [List.length_cons] at q5; omega) (by omega)
      have tt := test_op (.tup (IL d)) f F gl (I.at_ f List.mem_cons_self) hb ho (.val (.int (pos d r))) c3 c4 c5 c6
      rcases res with ⟨e, h1, z, gl'', k1, k2, w⟩ | ⟨y, r'', j, a3, a4, a5, a6, gl'', cc', w, rest⟩
      · exact .inl ⟨e, h1, z, gl'', k1, k2, wh_step tt st w⟩
      · exact .inr ⟨y, r'', j, a3, a4, a5, a6, gl'', cc', wh_step tt st w, rest⟩
  | op n r s r' o he hg ih =>
    intro F gl cc c3 c4 c5 c6 I hb ho hn hp hdr hN hz
    have ho : Op F := by
      rcases ho with ho | ho
      · exact ho
      · have := nd_dn ho
        omega
    cases F with
    | nil => exact hb.elim
    | cons f F =>
      have hs : r <:+ d := ⟨cc, hdr.symm⟩
      have h1 := item_op r s r' (fun z m => hB z (hs.subset m)) he
      have h4' := num_pos (5 * s + 3)
      have l1 := congrArg List.length h1
      have l2 := congrArg big h1
      rw [List.length_append] at l1
      rw [big_app, big_num] at l2
      have ld := congrArg List.length hdr
      rw [List.length_append] at ld
      have hN' : F.length + 1 + big r ≤ N := by simpa using hN
      obtain ⟨hs', gl', c3', c4', c5', c6', st, I', zz⟩ := up_op d m gl0 gl hd hB f F r s r' hs he I (by omega) c3 c4 c5 c6
      obtain ⟨q1, q2, q3, q4, q5⟩ := clos_ok N (f :: F).length ⟨s, gl.length, []⟩ (f :: F) (cc ++ (num (5 * s + 3) ++ [])) (Nat.le_refl _) (bt_push _ hb) (by simp) ho (.more ⟨s, gl.length, []⟩ f F cc [] hp (PkL.nil _)) (by simp; omega)
      have en : nd (clos (⟨s, gl.length, []⟩ :: f :: F)) = ((n + s : Nat) : Int) := by
        rw [q2]
        show (s : Int) - (([] : List D).length : Nat) - 1 + nd (f :: F) = _
        rw [hn]
        simp
        omega
      have res := ih (clos (⟨s, gl.length, []⟩ :: f :: F)) gl' (cc ++ (num (5 * s + 3) ++ [])) c3' c4' c5' c6' I' q3 q1 en q4 (by rw [hdr, h1, List.append_nil, List.append_assoc]) (by simp only [List.length_cons] at q5; omega) (by omega)
      have tt := test_op (.tup (IL d)) f F gl (I.at_ f List.mem_cons_self) hb ho (.val (.int (pos d r))) c3 c4 c5 c6
      rcases res with ⟨e, h1, z, gl'', k1, k2, w⟩ | ⟨y, r'', j, a3, a4, a5, a6, gl'', cc', w, rest⟩
      · exact .inl ⟨e, h1, z, gl'', k1, k2, wh_step tt st w⟩
      · exact .inr ⟨y, r'', j, a3, a4, a5, a6, gl'', cc', wh_step tt st w, rest⟩
theorem keep_app {gl0 gl' : List MObj} (k : ∀ i, i < gl0.length → gl'[i]? = gl0[i]?) (h : gl0.length ≤ gl'.length) : ∃ more, gl' = gl0 ++ more := by
  refine ⟨gl'.drop gl0.length, ?_⟩
  have : gl'.take gl0.length = gl0 := by
    apply List.ext_getElem?
    intro i
    by_cases hi : i < gl0.length
    · rw [List.getElem?_take_of_lt hi, k i hi]
    · rw [List.getElem?_eq_none (by rw [List.length_take]; omega), List.getElem?_eq_none (by omega)]
  conv => lhs; rw [← List.take_append_drop gl0.length gl', this]
/-- unpack of any bytes: what the law's reader tells -/
theorem unpack_spec (d : List Int) (gl : List MObj) (N : Nat) (hd : d.length ≤ 100000) (hB : Byt d) (hN : 1 + big d ≤ N) (o : Option Nat) (g : GR 1 d o) :
    (o = none ∧ ∃ x more, f_unpack [.tup (IL d)] gl = .ok x (gl ++ more) ∧ Pk N x d) ∨ (∃ e, o = some e ∧ ∃ more, f_unpack [.tup (IL d)] gl = .exc "BadBytes" (bad d e) (gl ++ more)) := by
  have I : Inv gl.length gl (gl ++ [.lst []]) [⟨1, gl.length, []⟩] := (Inv.push (m := gl.length) (gl0 := gl) (gl := gl) (F := []) ⟨fun f h => (by cases h), List.Pairwise.nil, fun f h => (by cases h), Nat.le_refl _, fun i _ => rfl⟩ 1)
  have e0 : pos d d = 0 := by unfold pos; omega
  have res := up_loop d gl.length gl N hd hB g [⟨1, gl.length, []⟩] (gl ++ [.lst []]) [] .none .none .none .none I rfl (.inl (fun f h => by
    rcases List.mem_cons.mp h with rfl | h
    · show 0 < 1; omega
    · cases h)) rfl (.one _ _ (PkL.nil _)) rfl (by simpa using hN) (by show 1 + d.length ≤ d.length + 1; omega)
  have eF : FD [⟨1, gl.length, []⟩] = [.tup [.int 1, .ref gl.length]] := rfl
  rw [e0, eF] at res
  rcases res with ⟨e, h1, z, gl', k1, k2, w⟩ | ⟨x, r', j, c3, c4, c5, c6, gl', cc', w, I', hp, hdr, ho⟩
  · obtain ⟨more, rfl⟩ := keep_app k1 k2
    refine .inr ⟨e, h1, more, ?_⟩
    have w := wh_done w (by simp)
    simp [f_unpack, mDef, List.replicate, b_unpack, as_new, as_d, w]
  · obtain ⟨more, rfl⟩ := keep_app I'.keep I'.hm
    have w := wh_done w (by simp)
    have hg : (gl ++ more)[j]? = some (.lst [x]) := I'.at_ _ List.mem_cons_self
    have ix : ∀ s : S, asLst s (.at 1) = some (FD [⟨1, j, [x]⟩]) → opIx s (.at 1) (.d (.int 0)) = .ok (.d (fD ⟨1, j, [x]⟩)) s := fun s h => q_ixL h (atI_zero _)
    have i1 : ∀ s, opIx s (.d (fD ⟨1, j, [x]⟩)) (.d (.int 1)) = .ok (.d (.ref j)) s := fun s => q_ixT rfl
    have i0 : ∀ s : S, asLst s (.d (.ref j)) = some [x] → opIx s (.d (.ref j)) (.d (.int 0)) = .ok (.d x) s := fun s h => q_ixL h rfl
    generalize FD [⟨1, j, [x]⟩] = L at w ix
    rcases ho with ⟨ho, hr⟩ | ⟨ho, hr⟩
    · subst hr
      rw [List.append_nil] at hdr
      refine .inl ⟨ho, x, more, ?_, by rw [hdr]; exact hp⟩
      have hl : ¬ pos d [] < d.length := by rw [pos_nil]; omega
      simp [f_unpack, mDef, List.replicate, b_unpack, as_new, as_d, w, hl, ix, i1, i0, asLst, hg]
    · refine .inr ⟨r'.length, ho, more, ?_⟩
      have hl : pos d r' < d.length := by have := List.length_pos_iff.mpr hr; unfold pos; omega
      have pl := pos_lo (d := d) (r := r') ⟨cc', hdr.symm⟩
      have p2 : (pos d r').natAbs ≤ 1000000 := by omega
      simp [f_unpack, mDef, List.replicate, b_unpack, as_new, as_d, w, hl, p2]
      rfl
end K18
/-! # k18: the box, same, drawn values -/
namespace K18
open PySem PySem.Spec PyProof.Rows L2 MI
/-! ### the box -/
def Bx (gl : List MObj) : Prop := ∃ (cs : List Int) (a b : Int) (rest : List MObj), gl = .lst (IL cs) :: .lst [.ref 0, .int a, .int b] :: rest ∧ 0 ≤ a ∧ 0 ≤ b
theorem box_spec (ns : List Int) : ∃ gl, f__law_box [.scr (ns.map D.int)] [] = .ok (.ref 1) gl ∧ Bx gl := by
  refine ⟨[.lst (IL (cut ns none (some 63))), .lst [.ref 0, .int 0, .int (4711 + ns.length)]], ?_, _, _, _, [], rfl, by omega, by omega⟩
  have e : cut (ns.map D.int) none (some 63) = IL (cut ns none (some 63)) := cut_il
  simp [f__law_box, mDef, b__law_box, opSl, asTup, asLst, asScr, asInt, e, fLen, asD, lenD]
def ld1 (b : Int) : Int := (b * 48271 + 17) % 2147483629
def ld2 (b : Int) : Int := (ld1 b * 69621 + 5) % 2147483587
def ld3 (b : Int) : Int := (ld2 b * 40692 + 3) % 2147483563
def ldr (b : Int) : Int := ld1 b * 4611686014132420609 + ld2 b * 2147483647 + ld3 b
theorem load_nil (a b : Int) (rest : List MObj) : f__law_load [.ref 1] (.lst [] :: .lst [.ref 0, .int a, .int b] :: rest) = .ok (.int (ldr b)) (.lst [] :: .lst [.ref 0, .int a, .int (ld3 b)] :: rest) := by
  simp [f__law_load, mDef, List.replicate, b__law_load, q_ixL, asLst, atI, ixN, fLen, asD, lenD, q_mulR, q_mulL, q_mod, as_d, ldr, ld1, ld2, ld3]
theorem load_cons (c : Int) (cs : List Int) (a b : Int) (rest : List MObj) : f__law_load [.ref 1] (.lst (.int c :: IL cs) :: .lst [.ref 0, .int a, .int b] :: rest) = (let z := if 0 ≤ c then 2 * c else -2 * c - 1
    if 1000000000000000000 ≤ z then .ok (.int z) (.lst (IL cs) :: .lst [.ref 0, .int a, .int b] :: rest) else
      let b' := (b * 69621 + z * 48271 + 11) % 2147483647
      .ok (.int (ldr b')) (.lst (IL cs) :: .lst [.ref 0, .int a, .int (ld3 b')] :: rest)) := by
  by_cases hc : 0 ≤ c
  · by_cases hz : 1000000000000000000 ≤ 2 * c
    · simp [f__law_load, mDef, List.replicate, b__law_load, q_ixL, asLst, atI, ixN, fLen, asD, lenD, q_mulR, q_mulL, q_mod, as_d, ldr, ld1, ld2, ld3, hc, hz, fPopAt, seqIndex?]
    · simp [f__law_load, mDef, List.replicate, b__law_load, q_ixL, asLst, atI, ixN, fLen, asD, lenD, q_mulR, q_mulL, q_mod, as_d, ldr, ld1, ld2, ld3, hc, hz, fPopAt, seqIndex?]
  · by_cases hz : 1000000000000000000 ≤ -2 * c - 1
    · simp [f__law_load, mDef, List.replicate, b__law_load, q_ixL, asLst, atI, ixN, fLen, asD, lenD, q_mulR, q_mulL, q_mod, as_d, ldr, ld1, ld2, ld3, hc, hz, fPopAt, seqIndex?]
    · simp [f__law_load, mDef, List.replicate, b__law_load, q_ixL, asLst, atI, ixN, fLen, asD, lenD, q_mulR, q_mulL, q_mod, as_d, ldr, ld1, ld2, ld3, hc, hz, fPopAt, seqIndex?]
theorem em_lo (x y : Int) (h : 0 < y) : 0 ≤ x % y := Int.emod_nonneg _ (by omega)
theorem ldr_nonneg (b : Int) : 0 ≤ ldr b ∧ 0 ≤ ld3 b := by
  have h1 := em_lo (b * 48271 + 17) 2147483629 (by omega)
  have h2 := em_lo (ld1 b * 69621 + 5) 2147483587 (by omega)
  have h3 := em_lo (ld2 b * 40692 + 3) 2147483563 (by omega)
  unfold ldr
  refine ⟨?_, h3⟩
  have e1 : 0 ≤ ld1 b := h1
  have e2 : 0 ≤ ld2 b := h2
  have e3 : 0 ≤ ld3 b := h3
  omega
theorem load_spec (cs : List Int) (a b : Int) (rest : List MObj) (hb : 0 ≤ b) : ∃ r cs' b', f__law_load [.ref 1] (.lst (IL cs) :: .lst [.ref 0, .int a, .int b] :: rest) = .ok (.int r) (.lst (IL cs') :: .lst [.ref 0, .int a, .int b'] :: rest) ∧ 0 ≤ r ∧ 0 ≤ b' := by
  cases cs with
  | nil => exact ⟨ldr b, [], ld3 b, load_nil a b rest, (ldr_nonneg b).1, (ldr_nonneg b).2⟩
  | cons c cs =>
    have e := load_cons c cs a b rest
    simp only at e
    split at e
    · split at e
      · rename_i hz
        exact ⟨_, cs, b, e, by omega, hb⟩
      · exact ⟨_, cs, _, e, (ldr_nonneg _).1, (ldr_nonneg _).2⟩
    · split at e
      · rename_i hz
        exact ⟨_, cs, b, e, by omega, hb⟩
      · exact ⟨_, cs, _, e, (ldr_nonneg _).1, (ldr_nonneg _).2⟩
theorem draw_spec (gl : List MObj) (m : Int) (h : Bx gl) (h0 : 0 < m) (h2 : m < 1073741824) : ∃ r gl', f__law_draw [.ref 1, .int m] gl = .ok (.int r) gl' ∧ 0 ≤ r ∧ r < m ∧ Bx gl' := by
  obtain ⟨cs, a, b, rest, rfl, ha, hb⟩ := h
  by_cases hm : a < m
  · obtain ⟨r, cs', b', e, r0, b0⟩ := load_spec cs a b rest hb
    refine ⟨r % m, .lst (IL cs') :: .lst [.ref 0, .int (r / m), .int b'] :: rest, ?_, em_lo _ _ h0, Int.emod_lt_of_pos _ h0, cs', r / m, b', rest, rfl, Int.ediv_nonneg r0 (by omega), b0⟩
    simp [f__law_draw, mDef, List.replicate, b__law_draw, q_ixL, asLst, atI, ixN, as_d, hm, e, q_mod, q_fdiv, h0, h2]
  · refine ⟨a % m, .lst (IL cs) :: .lst [.ref 0, .int (a / m), .int b] :: rest, ?_, em_lo _ _ h0, Int.emod_lt_of_pos _ h0, cs, a / m, b, rest, rfl, Int.ediv_nonneg ha (by omega), hb⟩
    simp [f__law_draw, mDef, List.replicate, b__law_draw, q_ixL, asLst, atI, ixN, as_d, hm, q_mod, q_fdiv, h0, h2]
/-! ### same -/
theorem blsOf_map : ∀ bs : List Bool, blsOf (bs.map D.bl) = some bs
  | [] => rfl
  | b :: bs => by
    show (blsOf (bs.map D.bl)).map _ = _
    rw [blsOf_map bs]
    rfl
theorem range_bools (bs : List Bool) : (List.range bs.length).map (fun k => D.bl (bs.getD k false)) = bs.map D.bl := by
  apply List.ext_getElem?
  intro i
  rw [List.getElem?_map, List.getElem?_map]
  by_cases h : i < bs.length
  · rw [List.getElem?_range h, List.getElem?_eq_getElem h, Option.map_some, Option.map_some, List.getD_eq_getElem?_getD, List.getElem?_eq_getElem h]
    rfl
  · rw [List.getElem?_eq_none (by rw [List.length_range]; omega), List.getElem?_eq_none (by omega)]
    rfl
theorem same_seq (n : Nat) (gl : List MObj) (xs ys : List D) (bs : List Bool) (h1 : xs.length = bs.length) (h2 : ys.length = bs.length) (hl : bs.length ≤ 100000) (x y : D) (hx : ∀ (i : Nat) (z : D), xs[i]? = some z → ∀ s, opIx s (.d x) (.d (.int i)) = .ok (.d z) s) (hy : ∀ (i : Nat) (z : D), ys[i]? = some z → ∀ s, opIx s (.d y) (.d (.int i)) = .ok (.d z) s)
    (lx : ∀ s, fLen s (.d x) = .ok (.d (.int xs.length)) s)
    (hb : ∀ (i : Nat) (a b : D) (q : Bool), xs[i]? = some a → ys[i]? = some b → bs[i]? = some q → f__law_same n [a, b] gl = .ok (.bl q) gl) :
    mComp [2] (iRange1 (mACons (mFn1 fLen (mVar 0)) mANil)) (tgName 2) mYes (e__law_same_1 (f__law_same n)) ⟨[.val x, .val y, .none], gl⟩ = .ok (.new (.lst (bs.map D.bl))) ⟨[.val x, .val y, .none], gl⟩ := by
  rw [← range_bools]
  refine comp_mapI (List.range bs.length) (fun k => .int ((k : Nat) : Int)) (fun k => D.bl (bs.getD k false)) ?_ (by simp) rfl (by rw [List.length_range]; omega) fun i hi => ?_
  · have e : rangeD 0 bs.length = (List.range bs.length).map fun k => D.int ((k : Nat) : Int) := by
      rw [rangeD_map]
      exact List.map_congr_left fun k _ => by rw [Int.zero_add]
    have hr : rng1 (bs.length : Int) = some (rangeD 0 bs.length) := rng1_nat (by omega)
    simp [lx, h1, hr, e]
  · have hi := List.mem_range.mp hi
    obtain ⟨a, ha⟩ : ∃ a, xs[i]? = some a := ⟨_, List.getElem?_eq_getElem (by omega)⟩
    obtain ⟨b, hb'⟩ : ∃ b, ys[i]? = some b := ⟨_, List.getElem?_eq_getElem (by omega)⟩
    have hq : bs[i]? = some (bs.getD i false) := by rw [List.getD_eq_getElem?_getD, List.getElem?_eq_getElem hi]; rfl
    have r := hb i a b _ ha hb' hq
    have i1 := hx i a ha
    have i2 := hy i b hb'
    simp [-List.getD_eq_getElem?_getD, e__law_same_1, i1, i2, r]
theorem ixT (xs : List D) (i : Nat) (z : D) (h : xs[i]? = some z) (s : S) : opIx s (.d (.tup xs)) (.d (.int i)) = .ok (.d z) s := by
  refine q_ixT ?_
  have hl := (List.getElem?_eq_some_iff.mp h).1
  unfold atI ixN
  rw [if_pos (by omega), if_pos (by omega)]
  simpa using h
theorem ixL (xs : List D) (i : Nat) (z : D) (h : xs[i]? = some z) (s : S) : opIx s (.d (.lst xs)) (.d (.int i)) = .ok (.d z) s := by
  refine q_ixL rfl ?_
  have hl := (List.getElem?_eq_some_iff.mp h).1
  unfold atI ixN
  rw [if_pos (by omega), if_pos (by omega)]
  simpa using h
theorem same_tup (n : Nat) (gl : List MObj) (xs ys : List D) (bs : List Bool) (h1 : xs.length = bs.length) (h2 : ys.length = bs.length) (hl : bs.length ≤ 100000)
    (hb : ∀ (i : Nat) (a b : D) (q : Bool), xs[i]? = some a → ys[i]? = some b → bs[i]? = some q → f__law_same n [a, b] gl = .ok (.bl q) gl) : f__law_same (n + 1) [.tup xs, .tup ys] gl = .ok (.bl (bs.all id)) gl := by
  have cm := same_seq n gl xs ys bs h1 h2 hl (.tup xs) (.tup ys) (ixT xs) (ixT ys) (fun s => rfl) hb
  have fa : ∀ s, fAll s (.new (.lst (bs.map D.bl))) = .ok (.d (.bl (bs.all id))) s := fun s => by
    unfold fAll
    simp only [asLst, Option.bind_some, blsOf_map]
  have hxy : xs.length = ys.length := h1.trans h2.symm
  simp [-ap_Comp, f__law_same, mDef, List.replicate, b__law_same, fIsi, asD, tyD, isTy, truthD, cm, fa, hxy]
theorem same_tupN (n : Nat) (gl : List MObj) (xs ys : List D) (h : xs.length ≠ ys.length) : f__law_same (n + 1) [.tup xs, .tup ys] gl = .ok (.bl false) gl := by
  have h' : ¬ ((xs.length : Int) = ys.length) := by omega
  simp [-ap_Comp, f__law_same, mDef, List.replicate, b__law_same, fIsi, asD, tyD, isTy, truthD, h']
theorem same_lst (n : Nat) (gl : List MObj) (xs ys : List D) (bs : List Bool) (h1 : xs.length = bs.length) (h2 : ys.length = bs.length) (hl : bs.length ≤ 100000)
    (hb : ∀ (i : Nat) (a b : D) (q : Bool), xs[i]? = some a → ys[i]? = some b → bs[i]? = some q → f__law_same n [a, b] gl = .ok (.bl q) gl) : f__law_same (n + 1) [.lst xs, .lst ys] gl = .ok (.bl (bs.all id)) gl := by
  have cm := same_seq n gl xs ys bs h1 h2 hl (.lst xs) (.lst ys) (ixL xs) (ixL ys) (fun s => rfl) hb
  have fa : ∀ s, fAll s (.new (.lst (bs.map D.bl))) = .ok (.d (.bl (bs.all id))) s := fun s => by
    unfold fAll
    simp only [asLst, Option.bind_some, blsOf_map]
  have hxy : xs.length = ys.length := h1.trans h2.symm
  simp [-ap_Comp, f__law_same, mDef, List.replicate, b__law_same, fIsi, asD, tyD, isTy, truthD, cm, fa, hxy]
mutual
inductive Pl : Nat → D → Prop
  | non (n : Nat) : Pl (n + 1) .non
  | bl (n : Nat) (b : Bool) : Pl (n + 1) (.bl b)
  | int (n : Nat) (i : Int) : Pl (n + 1) (.int i)
  | str (n : Nat) (x : Str) : Pl (n + 1) (.str x)
  | tup (n : Nat) (xs : List D) : xs.length ≤ 100000 → PlL n xs → Pl (n + 1) (.tup xs)
  | lst (n : Nat) (xs : List D) : xs.length ≤ 100000 → PlL n xs → Pl (n + 1) (.lst xs)
inductive PlL : Nat → List D → Prop
  | nil (n : Nat) : PlL n []
  | cons (n : Nat) (x : D) (xs : List D) : Pl n x → PlL n xs → PlL n (x :: xs)
end
theorem PlL.get {n : Nat} : ∀ {xs : List D} {k : Nat} {x : D}, PlL n xs → xs[k]? = some x → Pl n x
  | _, 0, _, .cons _ _ _ h _, e => by simp at e; subst e; exact h
  | _, k + 1, _, .cons _ _ _ _ t, e => PlL.get t (by simpa using e)
theorem all_true (n : Nat) : (List.replicate n true).all id = true := by
  rw [List.all_eq_true]
  intro b hb
  rw [(List.mem_replicate.mp hb).2]
  rfl
theorem same_refl (gl : List MObj) : ∀ (n : Nat) (x : D), Pl n x → f__law_same n [x, x] gl = .ok (.bl true) gl := by
  intro n
  induction n with
  | zero => intro x h; cases h
  | succ n ih =>
    intro x h
    have key : ∀ xs : List D, PlL n xs → ∀ (i : Nat) (a b : D) (q : Bool), xs[i]? = some a → xs[i]? = some b → (List.replicate xs.length true)[i]? = some q → f__law_same n [a, b] gl = .ok (.bl q) gl := fun xs hx i a b q ha hb hq => by
      rw [ha] at hb
      cases hb
      have : q = true := (List.mem_replicate.mp (List.mem_of_getElem? hq)).2
      rw [this]
      exact ih a (hx.get ha)
    cases h with
    | non => simp [f__law_same, mDef, List.replicate, b__law_same, fIsi, asD, tyD, isTy, truthD, opIsN, isNonRV]
    | bl _ b => simp [f__law_same, mDef, List.replicate, b__law_same, fIsi, asD, tyD, isTy, truthD, opIsN, isNonRV, opEq, eqvO, eqS]
    | int _ i => simp [f__law_same, mDef, List.replicate, b__law_same, fIsi, asD, tyD, isTy, truthD, opIsN, isNonRV, opEq, eqvO, eqS]
    | str _ z => simp [f__law_same, mDef, List.replicate, b__law_same, fIsi, asD, tyD, isTy, truthD, opIsN, isNonRV, opEq, eqvO, eqS]
    | tup _ xs hl hx =>
      rw [same_tup n gl xs xs (List.replicate xs.length true) (by simp) (by simp) (by simpa using hl) (key xs hx), all_true]
    | lst _ xs hl hx =>
      rw [same_lst n gl xs xs (List.replicate xs.length true) (by simp) (by simp) (by simpa using hl) (key xs hx), all_true]
theorem pl_int (n : Nat) (h : 0 < n) (i : Int) : Pl n (.int i) := by cases n with
  | zero => omega
  | succ n => exact .int n i
theorem pl_non (n : Nat) (h : 0 < n) : Pl n .non := by cases n with
  | zero => omega
  | succ n => exact .non n
theorem pl_il (n : Nat) (l : List Int) : PlL (n + 1) (IL l) := by
  induction l with
  | nil => exact .nil _
  | cons a l ih => exact .cons _ _ _ (.int _ _) ih
theorem pl_tupI (n : Nat) (l : List Int) (h : l.length ≤ 100000) : Pl (n + 2) (.tup (IL l)) := .tup _ _ (by simpa using h) (pl_il n l)
theorem pl_lstI (n : Nat) (l : List Int) (h : l.length ≤ 100000) : Pl (n + 2) (.lst (IL l)) := .lst _ _ (by simpa using h) (pl_il n l)
mutual
theorem pk_pl : ∀ {n : Nat} {x : D} {l : List Int}, Pk n x l → l.length ≤ 100000 → Pl n x
  | _, _, _, .atom n x h e, _ => by
    cases x with
    | non => exact .non n
    | bl b => exact .bl n b
    | int i => exact .int n i
    | _ => cases e
  | _, _, _, .str n l e, _ => .str n _
  | _, _, _, .tup n xs l e, hl => by
    rw [List.length_append] at hl
    exact .tup n xs (by have := pkl_pos e; omega) (pkl_pl e (by omega))
theorem pkl_pl : ∀ {n : Nat} {xs : List D} {l : List Int}, PkL n xs l → l.length ≤ 100000 → PlL n xs
  | _, _, _, .nil n, _ => .nil n
  | _, _, _, .cons n x xs l m a b, hl => by
    rw [List.length_append] at hl
    exact .cons n x xs (pk_pl a (by omega)) (pkl_pl b (by omega))
end
mutual
theorem pk_det : ∀ {n m : Nat} {x y : D} {l l' : List Int}, Pk n x l → Pk m y l' → x = y → l = l'
  | _, _, _, _, _, _, .atom n x h e, .atom m y h' e', z => by subst z; rw [e] at e'; cases e'; rfl
  | _, _, _, _, _, _, .atom n x h e, .str m l' e', z => by subst z; cases e
  | _, _, _, _, _, _, .atom n x h e, .tup m ys l' e', z => by subst z; cases e
  | _, _, _, _, _, _, .str n l e, .atom m y h' e', z => by subst z; cases e'
  | _, _, _, _, _, _, .str n l e, .str m l' e', z => by rw [txt_inj e e' (D.str.inj z)]
  | _, _, _, _, _, _, .str n l e, .tup m ys l' e', z => by cases z
  | _, _, _, _, _, _, .tup n xs l e, .atom m y h' e', z => by subst z; cases e'
  | _, _, _, _, _, _, .tup n xs l e, .str m l' e', z => by cases z
  | _, _, _, _, _, _, .tup n xs l e, .tup m ys l' e', z => by
    have z' := D.tup.inj z
    rw [pkl_det e e' z', z']
theorem pkl_det : ∀ {n m : Nat} {xs ys : List D} {l l' : List Int}, PkL n xs l → PkL m ys l' → xs = ys → l = l'
  | _, _, _, _, _, _, .nil n, .nil m, z => rfl
  | _, _, _, _, _, _, .nil n, .cons m y ys l' k' a' b', z => by cases z
  | _, _, _, _, _, _, .cons n x xs l k a b, .nil m, z => by cases z
  | _, _, _, _, _, _, .cons n x xs l k a b, .cons m y ys l' k' a' b', z => by
    rw [pk_det a a' (List.cons.inj z).1, pkl_det b b' (List.cons.inj z).2]
end
/-! ### same decides -/
theorem PkL.get {n : Nat} : ∀ {xs : List D} {l : List Int} {k : Nat} {x : D}, PkL n xs l → xs[k]? = some x → ∃ l', Pk n x l'
  | _, _, 0, _, .cons _ _ _ _ _ h _, e => by simp at e; subst e; exact ⟨_, h⟩
  | _, _, k + 1, _, .cons _ _ _ _ _ _ t, e => PkL.get t (by simpa using e)
theorem same_list (gl : List MObj) (k : Nat) (ih : ∀ (x y : D) (l l' : List Int), Pk k x l → Pk k y l' → l.length ≤ 100000 → l'.length ≤ 100000 → ∃ b, f__law_same k [x, y] gl = .ok (.bl b) gl ∧ (b = true ↔ x = y)) :
    ∀ (xs ys : List D) (m m' : List Int), PkL k xs m → PkL k ys m' → m.length ≤ 100000 → m'.length ≤ 100000 → xs.length = ys.length →
      ∃ bs : List Bool, bs.length = xs.length ∧ (∀ (i : Nat) (a b : D) (q : Bool), xs[i]? = some a → ys[i]? = some b → bs[i]? = some q → f__law_same k [a, b] gl = .ok (.bl q) gl) ∧ (bs.all id = true ↔ xs = ys)
  | [], [], m, m', h, h', hl, hl', _ => ⟨[], rfl, fun i a b q ha => by simp at ha, by simp⟩
  | [], _ :: _, m, m', h, h', hl, hl', hn => by simp at hn
  | _ :: _, [], m, m', h, h', hl, hl', hn => by simp at hn
  | x :: xs, y :: ys, m, m', h, h', hl, hl', hn => by
    cases h with
    | cons _ _ _ l l2 a a2 =>
      cases h' with
      | cons _ _ _ l' l2' b b2 =>
        rw [List.length_append] at hl hl'
        obtain ⟨q, hq, hq2⟩ := ih x y l l' a b (by omega) (by omega)
        obtain ⟨bs, h1, h2, h3⟩ := same_list gl k ih xs ys l2 l2' a2 b2 (by omega) (by omega) (by simpa using hn)
        refine ⟨q :: bs, by simp [h1], fun i u v w hu hv hw => ?_, ?_⟩
        · cases i with
          | zero =>
            simp at hu hv hw
            subst hu hv hw
            exact hq
          | succ i => exact h2 i u v w (by simpa using hu) (by simpa using hv) (by simpa using hw)
        · rw [List.all_cons, Bool.and_eq_true, h3]
          show (q = true ∧ _) ↔ _
          rw [hq2]
          simp
theorem same_dec (gl : List MObj) : ∀ (k : Nat) (x y : D) (l l' : List Int), Pk k x l → Pk k y l' → l.length ≤ 100000 → l'.length ≤ 100000 → ∃ b, f__law_same k [x, y] gl = .ok (.bl b) gl ∧ (b = true ↔ x = y) := by
  intro k
  induction k with
  | zero => intro x y l l' h; cases h
  | succ k ih =>
    intro x y l l' hx hy hl hl'
    cases hx with
    | atom _ _ h e =>
      cases hy with
      | atom _ _ h' e' =>
        cases x with
        | non => cases y with
          | non => exact ⟨true, by simp [f__law_same, mDef, List.replicate, b__law_same, fIsi, asD, tyD, isTy, truthD, opIsN, isNonRV, opEq, eqvO, eqS], by simp⟩
          | bl b => exact ⟨false, by simp [f__law_same, mDef, List.replicate, b__law_same, fIsi, asD, tyD, isTy, truthD, opIsN, isNonRV, opEq, eqvO, eqS], by simp⟩
          | int i => exact ⟨false, by simp [f__law_same, mDef, List.replicate, b__law_same, fIsi, asD, tyD, isTy, truthD, opIsN, isNonRV, opEq, eqvO, eqS], by simp⟩
          | _ => cases e'
        | bl b => cases y with
          | non => exact ⟨false, by simp [f__law_same, mDef, List.replicate, b__law_same, fIsi, asD, tyD, isTy, truthD, opIsN, isNonRV, opEq, eqvO, eqS], by simp⟩
          | bl b' => exact ⟨b == b', by simp [f__law_same, mDef, List.replicate, b__law_same, fIsi, asD, tyD, isTy, truthD, opIsN, isNonRV, opEq, eqvO, eqS], by simp⟩
          | int i => exact ⟨false, by simp [f__law_same, mDef, List.replicate, b__law_same, fIsi, asD, tyD, isTy, truthD, opIsN, isNonRV, opEq, eqvO, eqS], by simp⟩
          | _ => cases e'
        | int i => cases y with
          | non => exact ⟨false, by simp [f__law_same, mDef, List.replicate, b__law_same, fIsi, asD, tyD, isTy, truthD, opIsN, isNonRV, opEq, eqvO, eqS], by simp⟩
          | bl b' => exact ⟨false, by simp [f__law_same, mDef, List.replicate, b__law_same, fIsi, asD, tyD, isTy, truthD, opIsN, isNonRV, opEq, eqvO, eqS], by simp⟩
          | int j => exact ⟨i == j, by simp [f__law_same, mDef, List.replicate, b__law_same, fIsi, asD, tyD, isTy, truthD, opIsN, isNonRV, opEq, eqvO, eqS], by simp⟩
          | _ => cases e'
        | _ => cases e
      | str _ m hs =>
        refine ⟨false, ?_, by simp; rintro rfl; cases e⟩
        cases x with
        | non => simp [f__law_same, mDef, List.replicate, b__law_same, fIsi, asD, tyD, isTy, truthD, opIsN, isNonRV, opEq, eqvO, eqS]
        | bl b => simp [f__law_same, mDef, List.replicate, b__law_same, fIsi, asD, tyD, isTy, truthD, opIsN, isNonRV, opEq, eqvO, eqS]
        | int b => simp [f__law_same, mDef, List.replicate, b__law_same, fIsi, asD, tyD, isTy, truthD, opIsN, isNonRV, opEq, eqvO, eqS]
        | _ => cases e
      | tup _ ys m hs =>
        refine ⟨false, ?_, by simp; rintro rfl; cases e⟩
        cases x with
        | non => simp [f__law_same, mDef, List.replicate, b__law_same, fIsi, asD, tyD, isTy, truthD, opIsN, isNonRV, opEq, eqvO, eqS]
        | bl b => simp [f__law_same, mDef, List.replicate, b__law_same, fIsi, asD, tyD, isTy, truthD, opIsN, isNonRV, opEq, eqvO, eqS]
        | int b => simp [f__law_same, mDef, List.replicate, b__law_same, fIsi, asD, tyD, isTy, truthD, opIsN, isNonRV, opEq, eqvO, eqS]
        | _ => cases e
    | str _ m hs =>
      cases hy with
      | atom _ _ h' e' =>
        refine ⟨false, ?_, by simp; rintro rfl; cases e'⟩
        cases y with
        | non => simp [f__law_same, mDef, List.replicate, b__law_same, fIsi, asD, tyD, isTy, truthD, opIsN, isNonRV, opEq, eqvO, eqS]
        | bl b => simp [f__law_same, mDef, List.replicate, b__law_same, fIsi, asD, tyD, isTy, truthD, opIsN, isNonRV, opEq, eqvO, eqS]
        | int b => simp [f__law_same, mDef, List.replicate, b__law_same, fIsi, asD, tyD, isTy, truthD, opIsN, isNonRV, opEq, eqvO, eqS]
        | _ => cases e'
      | str _ m' hs' => exact ⟨txt m == txt m', by simp [f__law_same, mDef, List.replicate, b__law_same, fIsi, asD, tyD, isTy, truthD, opIsN, isNonRV, opEq, eqvO, eqS], by simp⟩
      | tup _ ys m hs => exact ⟨false, by simp [f__law_same, mDef, List.replicate, b__law_same, fIsi, asD, tyD, isTy, truthD, opIsN, isNonRV, opEq, eqvO, eqS], by simp⟩
    | tup _ xs m hs =>
      cases hy with
      | atom _ _ h' e' =>
        refine ⟨false, ?_, by simp; rintro rfl; cases e'⟩
        cases y with
        | non => simp [f__law_same, mDef, List.replicate, b__law_same, fIsi, asD, tyD, isTy, truthD, opIsN, isNonRV, opEq, eqvO, eqS]
        | bl b => simp [f__law_same, mDef, List.replicate, b__law_same, fIsi, asD, tyD, isTy, truthD, opIsN, isNonRV, opEq, eqvO, eqS]
        | int b => simp [f__law_same, mDef, List.replicate, b__law_same, fIsi, asD, tyD, isTy, truthD, opIsN, isNonRV, opEq, eqvO, eqS]
        | _ => cases e'
      | str _ m hs => exact ⟨false, by simp [f__law_same, mDef, List.replicate, b__law_same, fIsi, asD, tyD, isTy, truthD, opIsN, isNonRV, opEq, eqvO, eqS], by simp⟩
      | tup _ ys m' hs' =>
        rw [List.length_append] at hl hl'
        by_cases hn : xs.length = ys.length
        · have p1 := pkl_pos hs
          have : ∃ bs : List Bool, bs.length = xs.length ∧ (∀ (i : Nat) (a b : D) (q : Bool), xs[i]? = some a → ys[i]? = some b → bs[i]? = some q → f__law_same k [a, b] gl = .ok (.bl q) gl) ∧ (bs.all id = true ↔ xs = ys) := by
            exact same_list gl k (fun a b l l' => ih a b l l') xs ys m m' hs hs' (by omega) (by omega) hn
          obtain ⟨bs, h1, h2, h3⟩ := this
          refine ⟨bs.all id, same_tup k gl xs ys bs h1.symm (by omega) (by omega) h2, h3.trans ⟨fun z => by rw [z], fun z => D.tup.inj z⟩⟩
        · exact ⟨false, same_tupN k gl xs ys hn, by simp; intro z; exact hn (by rw [z])⟩
end K18
/-! # k18: drawn values, what is told -/
namespace K18
open PySem PySem.Spec PyProof.Rows L2 MI
theorem add_txt (l : List Int) (b : Int) (hl : l.length ≤ 100000) (s : S) : opAdd s (.d (.str (txt l))) (.d (.str ⟨#[sgn b]⟩)) = .ok (.d (.str (txt (l ++ [b])))) s := by
  have e : txt l ++ (⟨#[sgn b]⟩ : Str) = txt (l ++ [b]) := by
    show (⟨(l.map sgn).toArray ++ #[sgn b]⟩ : Str) = ⟨((l ++ [b]).map sgn).toArray⟩
    congr 1
    simp
  have h : (txt l).length + (⟨#[sgn b]⟩ : Str).length ≤ sizeLine := by
    rw [txt_len]
    show l.length + 1 ≤ _
    exact szN _ (by omega)
  simp only [opAdd, orF, opAddI, fI, asInt, opAddS, asStr, h, if_true, e]
theorem vt_loop (c1 c2 c3 c6 : Slot) : ∀ (R : List D) (gl : List MObj) (l : List Int) (c5 : Slot), Bx gl → Sgs l → l.length + R.length ≤ 1000 →
    ∃ (l' : List Int) (gl' : List MObj) (c5' : Slot), forGo (tgName 5) l__law_value_2 R ⟨[.val (.ref 1), c1, c2, c3, .val (.str (txt l)), c5, c6], gl⟩ = .ok .nx ⟨[.val (.ref 1), c1, c2, c3, .val (.str (txt l')), c5', c6], gl'⟩ ∧ Bx gl' ∧ Sgs l' ∧ l'.length = l.length + R.length
  | [], gl, l, c5, hB, hs, hl => ⟨l, gl, c5, rfl, hB, hs, rfl⟩
  | d :: R, gl, l, c5, hB, hs, hl => by
    simp only [List.length_cons] at hl
    obtain ⟨b, gl1, d1, b0, b1, B1⟩ := draw_spec gl 40 hB (by omega) (by omega)
    have i2 := ix_sg b b0 b1
    unfold SG at i2
    have at_ := add_txt l b (by omega)
    have hs' : Sgs (l ++ [b]) := fun x m => by
      rcases List.mem_append.mp m with m | m
      · exact hs x m
      · rw [List.mem_singleton.mp m]; exact ⟨b0, b1⟩
    obtain ⟨l', gl', c5', w, k1, k2, k3⟩ := vt_loop c1 c2 c3 c6 R gl1 (l ++ [b]) (.val d) B1 hs' (by simp; omega)
    have st : l__law_value_2 ⟨[.val (.ref 1), c1, c2, c3, .val (.str (txt l)), .val d, c6], gl⟩ = .ok .nx ⟨[.val (.ref 1), c1, c2, c3, .val (.str (txt (l ++ [b]))), .val d, c6], gl1⟩ := by
      simp [l__law_value_2, d1, i2, at_, as_d]
    refine ⟨l', gl', c5', ?_, k1, k2, by rw [k3]; simp; omega⟩
    rw [forGo_cons, ap_tgName, as_d (by simp)]
    simp only [List.set_cons_succ, List.set_cons_zero, st]
    exact w
def lenB : Nat → Nat
  | 0 => 100
  | d + 1 => 100 + 3 * lenB d
def bigB : Nat → Nat
  | 0 => 1
  | d + 1 => 1 + 3 * bigB d
theorem lenB_lo (d : Nat) : 100 ≤ lenB d := by cases d <;> simp [lenB]
theorem bigB_lo (d : Nat) : 1 ≤ bigB d := by cases d <;> simp [bigB]
theorem num_short (h : Int) (hh : h < 2 ^ 98) : (num h).length ≤ 15 := by
  unfold num
  rw [List.length_append]
  have := digs_len 14 (h.toNat / 128) (by
    have : h.toNat < 2 ^ 98 := by omega
    have e : (128 : Nat) ^ 14 = 2 ^ 98 := by decide
    omega)
  simp
  omega
/-- a good value -/
def Gv (n : Nat) (x : D) (L B : Nat) : Prop := ∃ l, Pk n x l ∧ l.length ≤ L ∧ big l ≤ B
theorem gv_atom (n L B : Nat) (x : D) (h : Int) (e : hdA x = some h) (hh : h < 2 ^ 98) (hL : 100 ≤ L) (hB : 1 ≤ B) : Gv (n + 1) x L B :=
  ⟨num h, .atom n x h e, by have := num_short h hh; omega, by rw [big_num]; exact hB⟩
theorem txt_nil : (.str "" : D) = .str (txt []) := rfl
theorem value_cases (k : Nat) (dp mx w : Int) (gl gl1 : List MObj) (d1 : f__law_draw [.ref 1, .int mx] gl = .ok (.int w) gl1) (hmx : mx = if 0 < dp then 7 else 5) (w0 : 0 ≤ w) (B1 : Bx gl1) (h5 : w < 5) :
    ∃ x gl', f__law_value (k + 1) [.ref 1, .int dp] gl = .ok x gl' ∧ Bx gl' ∧ ∀ n L B, 100 ≤ L → 1 ≤ B → Gv (n + 1) x L B := by
  have dd : (if 0 < dp then f__law_draw [.ref 1, .int 7] gl else f__law_draw [.ref 1, .int 5] gl) = .ok (.int w) gl1 := by
    subst hmx
    split
    · rename_i h; rw [if_pos h] at d1; exact d1
    · rename_i h; rw [if_neg h] at d1; exact d1
  by_cases h2 : w < 2
  · obtain ⟨t, gl2, d2, t0, t1, B2⟩ := draw_spec gl1 3 B1 (by omega) (by omega)
    have ht : t = 0 ∨ t = 1 ∨ t = 2 := by omega
    have ix : ∃ (x : D) (h : Int), hdA x = some h ∧ h < 100 ∧ ∀ s, opIx s (.d (.tup [.non, .bl true, .bl false])) (.d (.int t)) = .ok (.d x) s := by
      rcases ht with rfl | rfl | rfl
      · exact ⟨.non, 4, rfl, by omega, fun s => q_ixT rfl⟩
      · exact ⟨.bl true, 14, rfl, by omega, fun s => q_ixT rfl⟩
      · exact ⟨.bl false, 9, rfl, by omega, fun s => q_ixT rfl⟩
    obtain ⟨x, h, e, hh, ix⟩ := ix
    refine ⟨x, gl2, ?_, B2, fun n L B hL hB => gv_atom n L B x h e (by omega) hL hB⟩
    by_cases hd : 0 < dp
    · rw [if_pos hd] at dd
      simp [f__law_value, mDef, List.replicate, b__law_value, hd, dd, as_d, h2, d2, ix]
    · rw [if_neg hd] at dd
      simp [f__law_value, mDef, List.replicate, b__law_value, hd, dd, as_d, h2, d2, ix]
  · by_cases h4 : w < 4
    · obtain ⟨j, gl2, d2, j0, j1, B2⟩ := draw_spec gl1 4 B1 (by omega) (by omega)
      have hj : j = 0 ∨ j = 1 ∨ j = 2 ∨ j = 3 := by omega
      have ix : ∃ q : Int, 0 < q ∧ q ≤ 9999999 ∧ ∀ s, opIx s (.d (.tup [.int 2, .int 129, .int 20000, .int 9999999])) (.d (.int j)) = .ok (.d (.int q)) s := by
        rcases hj with rfl | rfl | rfl | rfl
        · exact ⟨2, by omega, by omega, fun s => q_ixT rfl⟩
        · exact ⟨129, by omega, by omega, fun s => q_ixT rfl⟩
        · exact ⟨20000, by omega, by omega, fun s => q_ixT rfl⟩
        · exact ⟨9999999, by omega, by omega, fun s => q_ixT rfl⟩
      obtain ⟨q, q0, q1, ix⟩ := ix
      obtain ⟨u, gl3, d3, u0, u1, B3⟩ := draw_spec gl2 q B2 q0 (by omega)
      obtain ⟨v, gl4, d4, v0, v1, B4⟩ := draw_spec gl3 9 B3 (by omega) (by omega)
      obtain ⟨z, gl5, d5, z0, z1, B5⟩ := draw_spec gl4 2 B4 (by omega) (by omega)
      have fin : ∀ i : Int, i.natAbs ≤ 9999999 * 2 ^ 65 + 5 → ∀ n L B, 100 ≤ L → 1 ≤ B → Gv (n + 1) (.int i) L B := fun i hi n L B hL hB => by
        refine gv_atom n L B (.int i) (if 0 ≤ i then 5 * i else 5 * (-1 - i) + 1) rfl ?_ hL hB
        split <;> omega
      have ml : ∀ s, opMul s (.d (.int u)) (.d (.int 36893488147419103232)) = .ok (.d (.int (u * 36893488147419103232))) s := fun s => q_mulL (by omega)
      refine ⟨.int (if z = 0 then -(if v = 0 then u * 36893488147419103232 + 5 else u) else (if v = 0 then u * 36893488147419103232 + 5 else u)), gl5, ?_, B5, fin _ ?_⟩
      · have c1 : ∀ {α : Type} (a b : α), True := fun _ _ => trivial
        by_cases hv : v = 0
        · by_cases hz : z = 0
          · by_cases hd : 0 < dp
            · rw [if_pos hd] at dd
              simp [f__law_value, mDef, List.replicate, b__law_value, hd, dd, as_d, h2, h4, d2, d3, d4, d5, ix, hv, hz, ml]
            · rw [if_neg hd] at dd
              simp [f__law_value, mDef, List.replicate, b__law_value, hd, dd, as_d, h2, h4, d2, d3, d4, d5, ix, hv, hz, ml]
          · by_cases hd : 0 < dp
            · rw [if_pos hd] at dd
              simp [f__law_value, mDef, List.replicate, b__law_value, hd, dd, as_d, h2, h4, d2, d3, d4, d5, ix, hv, hz, ml]
            · rw [if_neg hd] at dd
              simp [f__law_value, mDef, List.replicate, b__law_value, hd, dd, as_d, h2, h4, d2, d3, d4, d5, ix, hv, hz, ml]
        · by_cases hz : z = 0
          · by_cases hd : 0 < dp
            · rw [if_pos hd] at dd
              simp [f__law_value, mDef, List.replicate, b__law_value, hd, dd, as_d, h2, h4, d2, d3, d4, d5, ix, hv, hz, ml]
            · rw [if_neg hd] at dd
              simp [f__law_value, mDef, List.replicate, b__law_value, hd, dd, as_d, h2, h4, d2, d3, d4, d5, ix, hv, hz, ml]
          · by_cases hd : 0 < dp
            · rw [if_pos hd] at dd
              simp [f__law_value, mDef, List.replicate, b__law_value, hd, dd, as_d, h2, h4, d2, d3, d4, d5, ix, hv, hz, ml]
            · rw [if_neg hd] at dd
              simp [f__law_value, mDef, List.replicate, b__law_value, hd, dd, as_d, h2, h4, d2, d3, d4, d5, ix, hv, hz, ml]
      · split <;> split <;> omega
    · have hw : w = 4 := by omega
      subst hw
      obtain ⟨v, gl2, d2, v0, v1, B2⟩ := draw_spec gl1 9 B1 (by omega) (by omega)
      have : ∃ (c : Int) (gl3 : List MObj), 0 ≤ c ∧ c ≤ 60 ∧ Bx gl3 ∧ ((0 < v ∧ f__law_draw [.ref 1, .int 4] gl2 = .ok (.int c) gl3) ∨ (¬ 0 < v ∧ c = 60 ∧ gl3 = gl2)) := by
        by_cases hv : 0 < v
        · obtain ⟨c, gl3, d3, c0, c1, B3⟩ := draw_spec gl2 4 B2 (by omega) (by omega)
          exact ⟨c, gl3, c0, by omega, B3, .inl ⟨hv, d3⟩⟩
        · exact ⟨60, gl2, by omega, by omega, B2, .inr ⟨hv, rfl, rfl⟩⟩
      obtain ⟨c, gl3, c0, c1, B3, hc⟩ := this
      obtain ⟨l', gl', c5', w, k1, k2, k3⟩ := vt_loop (.val (.int dp)) (.val (.int 4)) .none .none (rangeD 0 c.toNat) gl3 [] .none B3 (fun _ h => by cases h) (by rw [rangeD_length]; simp; omega)
      rw [rangeD_length] at k3
      rw [← txt_nil] at w
      have hr := rng1_ok c0 (by omega)
      refine ⟨.str (txt l'), gl', ?_, k1, fun n L B hL hB => ⟨_, .str n l' k2, ?_, ?_⟩⟩
      · rcases hc with ⟨hv, d3⟩ | ⟨hv, rfl, rfl⟩
        · by_cases hd : 0 < dp
          · rw [if_pos hd] at dd
            simp [f__law_value, mDef, List.replicate, b__law_value, hd, dd, as_d, h2, h4, d2, d3, hv, hr, w]
          · rw [if_neg hd] at dd
            simp [f__law_value, mDef, List.replicate, b__law_value, hd, dd, as_d, h2, h4, d2, d3, hv, hr, w]
        · simp at w
          by_cases hd : 0 < dp
          · rw [if_pos hd] at dd
            simp [f__law_value, mDef, List.replicate, b__law_value, hd, dd, as_d, h2, h4, d2, hv, hr, w]
          · rw [if_neg hd] at dd
            simp [f__law_value, mDef, List.replicate, b__law_value, hd, dd, as_d, h2, h4, d2, hv, hr, w]
      · have := num_short (5 * l'.length + 2) (by simp at k3; omega)
        rw [List.length_append]
        simp at k3
        omega
      · rw [big_app, big_num, big_low l' fun b m => by have := (k2 b m).2; omega]
        omega
theorem gv_list {n L B : Nat} : ∀ {ds ys : List D}, All2 (fun _ y => Gv n y L B) ds ys → ∃ l, PkL n ys l ∧ l.length ≤ ds.length * L ∧ big l ≤ ds.length * B ∧ ys.length = ds.length
  | _, _, .nil => ⟨[], .nil n, by simp, by simp [big], rfl⟩
  | _, _, .cons (as := as) h t => by
    obtain ⟨l, h1, h2, h3⟩ := h
    obtain ⟨m, k1, k2, k3, k4⟩ := gv_list t
    refine ⟨l ++ m, .cons n _ _ l m h1 k1, ?_, ?_, by simp [k4]⟩
    · rw [List.length_append, List.length_cons, Nat.succ_mul]; omega
    · rw [big_app, List.length_cons, Nat.succ_mul]; omega
theorem value_spec : ∀ (deep k : Nat), deep < k → ∀ gl, Bx gl → ∃ x gl', f__law_value k [.ref 1, .int deep] gl = .ok x gl' ∧ Bx gl' ∧ Gv (deep + 1) x (lenB deep) (bigB deep) := by
  intro deep
  induction deep with
  | zero =>
    intro k hk gl hB
    obtain ⟨k, rfl⟩ : ∃ j, k = j + 1 := ⟨k - 1, by omega⟩
    obtain ⟨w, gl1, d1, w0, w1, B1⟩ := draw_spec gl 5 hB (by omega) (by omega)
    obtain ⟨x, gl', h1, h2, h3⟩ := value_cases k 0 5 w gl gl1 d1 rfl w0 B1 w1
    exact ⟨x, gl', h1, h2, h3 0 _ _ (lenB_lo 0) (bigB_lo 0)⟩
  | succ deep ih =>
    intro k hk gl hB
    obtain ⟨k, rfl⟩ : ∃ j, k = j + 1 := ⟨k - 1, by omega⟩
    obtain ⟨w, gl1, d1, w0, w1, B1⟩ := draw_spec gl 7 hB (by omega) (by omega)
    have hd : (0 : Int) < ((deep + 1 : Nat) : Int) := by omega
    by_cases h5 : w < 5
    · obtain ⟨x, gl', h1, h2, h3⟩ := value_cases k ((deep + 1 : Nat) : Int) 7 w gl gl1 d1 (by rw [if_pos hd]) w0 B1 h5
      exact ⟨x, gl', h1, h2, h3 _ _ _ (lenB_lo _) (bigB_lo _)⟩
    · have h2 : ¬ w < 2 := by omega
      have h4 : ¬ w < 4 := by omega
      have h4' : ¬ w = 4 := by omega
      obtain ⟨c, gl2, d2, c0, c1, B2⟩ := draw_spec gl1 4 B1 (by omega) (by omega)
      have hr := rng1_ok c0 (by omega : c ≤ 1000000)
      obtain ⟨ys, gl', e, B, R⟩ := comp_inv (v := 6) (e := e__law_value_1 (f__law_value k)) (it := iRange1 (mACons (mCall f__law_draw (mACons (mVar 0) (mACons (mC (.int 4)) mANil))) mANil)) (P := Bx) (R := fun _ y => Gv (deep + 1) y (lenB deep) (bigB deep)) (env := [.val (.ref 1), .val (.int ((deep + 1 : Nat) : Int)), .val (.int w), .none, .none, .none, .none]) (gl := gl2) (ds := rangeD 0 c.toNat)
        (s0 := ⟨[.val (.ref 1), .val (.int ((deep + 1 : Nat) : Int)), .val (.int w), .none, .none, .none, .none], gl1⟩) (by simp [d2, hr]) (by simp) rfl B2 (by rw [rangeD_length]; exact szN _ (by omega)) (fun d _ gl hB => by
          obtain ⟨x, gl', h1, h2, h3⟩ := ih k (by omega) gl hB
          refine ⟨x, gl', ?_, h2, h3⟩
          have en : ((deep + 1 : Nat) : Int) - 1 = deep := by omega
          simp only [Int.natCast_succ] at en
          simp [e__law_value_1, en, h1])
      obtain ⟨l, p1, p2, p3, p4⟩ := gv_list R
      rw [rangeD_length] at p2 p3 p4
      refine ⟨.tup ys, gl', ?_, B, _, .tup _ ys l p1, ?_, ?_⟩
      · simp only [Int.natCast_succ] at e hd ⊢
        simp [-ap_Comp, f__law_value, mDef, List.replicate, b__law_value, hd, d1, as_d, h2, h4, h4', e]
      · have := num_short (5 * ys.length + 3) (by rw [p4]; omega)
        rw [List.length_append]
        have : c.toNat * lenB deep ≤ 3 * lenB deep := Nat.mul_le_mul_right _ (by omega)
        show _ ≤ 100 + 3 * lenB deep
        omega
      · rw [big_app, big_num]
        have : c.toNat * bigB deep ≤ 3 * bigB deep := Nat.mul_le_mul_right _ (by omega)
        show _ ≤ 1 + 3 * bigB deep
        omega
mutual
theorem pk_byt : ∀ {n : Nat} {x : D} {l : List Int}, Pk n x l → Byt l
  | _, _, _, .atom n x h e => num_bytes h
  | _, _, _, .str n l e => byt_app (num_bytes _) fun b m => ⟨(e b m).1, by have := (e b m).2; omega⟩
  | _, _, _, .tup n xs l e => byt_app (num_bytes _) (pkl_byt e)
theorem pkl_byt : ∀ {n : Nat} {xs : List D} {l : List Int}, PkL n xs l → Byt l
  | _, _, _, .nil n => fun _ h => by cases h
  | _, _, _, .cons n x xs l m a b => byt_app (pk_byt a) (pkl_byt b)
end
/-- what is told of any bytes -/
theorem told_spec (d : List Int) (gl : List MObj) (N : Nat) (hd : d.length ≤ 100000) (hB : Byt d) (hN : 1 + big d ≤ N) (o : Option Nat) (g : GR 1 d o) :
    (o = none ∧ ∃ x more, f__law_told [.tup (IL d)] gl = .ok (.tup [x, .non]) (gl ++ more) ∧ Pk N x d) ∨ (∃ e, o = some e ∧ ∃ more, f__law_told [.tup (IL d)] gl = .ok (.tup [.non, .int ((d.length : Int) - e)]) (gl ++ more)) := by
  rcases unpack_spec d gl N hd hB hN o g with ⟨h1, x, more, h2, h3⟩ | ⟨e, h1, more, h2⟩
  · refine .inl ⟨h1, x, more, ?_, h3⟩
    simp [f__law_told, mDef, List.replicate, b__law_told, as_d, h2]
  · refine .inr ⟨e, h1, more, ?_⟩
    simp [f__law_told, mDef, List.replicate, b__law_told, as_d, h2]
theorem bx_more {gl : List MObj} (h : Bx gl) (more : List MObj) : Bx (gl ++ more) := by
  obtain ⟨cs, a, b, rest, rfl, h1, h2⟩ := h
  exact ⟨cs, a, b, rest ++ more, rfl, h1, h2⟩
end K18
/-! # k18: lists of numbers in the law -/
namespace K18
open PySem PySem.Spec PyProof.Rows L2 MI
def lst : List Int → Int → Int
  | [], b => b
  | n :: ns, _ => lst ns n
theorem lst_snoc : ∀ (ns : List Int) (b x : Int), lst (ns ++ [x]) b = x
  | [], b, x => rfl
  | n :: ns, b, x => lst_snoc ns n x
theorem gapsP_snoc : ∀ (ns : List Int) (b x : Int), gapsP (ns ++ [x]) b = gapsP ns b ++ [x - lst ns b - 1]
  | [], b, x => rfl
  | n :: ns, b, x => by
    show (n - b - 1) :: gapsP (ns ++ [x]) n = (n - b - 1) :: gapsP ns n ++ [x - lst ns n - 1]
    rw [gapsP_snoc ns n x]
    rfl
theorem gapsP_get : ∀ (ns : List Int) (b : Int) (k : Nat) (n : Int), ns[k]? = some n → (gapsP ns b)[k]? = some (n - (if k = 0 then b else ns.getD (k - 1) 0) - 1)
  | [], _, _, _, h => by simp at h
  | m :: ns, b, 0, n, h => by simp at h; subst h; rfl
  | m :: ns, b, k + 1, n, h => by
    have h' : ns[k]? = some n := by simpa using h
    have := gapsP_get ns m k n h'
    show (gapsP ns m)[k]? = _
    rw [this]
    cases k with
    | zero => simp
    | succ k => simp
def NB (ns : List Int) : Prop := ∀ n ∈ ns, 0 ≤ n ∧ n < 2 ^ 98
theorem nb_nn {ns : List Int} (h : NB ns) : NN ns := fun n m => (h n m).1
theorem flat_len : ∀ {ns : List Int}, NB ns → (flat ns).length ≤ 15 * ns.length
  | [], _ => by simp [flat]
  | n :: ns, h => by
    have h1 := num_short n (h n List.mem_cons_self).2
    have h2 := flat_len (ns := ns) fun m k => h m (List.mem_cons_of_mem _ k)
    rw [flat_cons, List.length_append, List.length_cons]
    omega
theorem flat_app (a b : List Int) : flat (a ++ b) = flat a ++ flat b := by unfold flat; simp
theorem range_ints (l : List Int) : (List.range l.length).map (fun k => D.int (l.getD k 0)) = IL l := by
  apply List.ext_getElem?
  intro i
  rw [List.getElem?_map, List.getElem?_map]
  by_cases h : i < l.length
  · rw [List.getElem?_range h, List.getElem?_eq_getElem h, Option.map_some, Option.map_some, List.getD_eq_getElem?_getD, List.getElem?_eq_getElem h]
    rfl
  · rw [List.getElem?_eq_none (by rw [List.length_range]; omega), List.getElem?_eq_none (by omega)]
    rfl
/-- the drawing loop -/
theorem nl_loop (c1 c2 c4 c5 c6 c7 c10 c11 : Slot) (b : Int) (hb : -1 ≤ b) (hb2 : b ≤ 10) : ∀ (R : List D) (gl : List MObj) (ns : List Int) (c3 : Slot), Bx gl → ns.length + R.length ≤ 100 → NN (gapsP ns b) → NN ns → b ≤ lst ns b → lst ns b ≤ 10 + 100000 * ns.length → (∀ n ∈ ns, n < 2 ^ 98) →
    ∃ (ns' : List Int) (gl' : List MObj) (c3' : Slot), forGo (tgName 3) l__law_numbers_3 R ⟨[.val (.ref 1), c1, c2, c3, c4, c5, c6, c7, .own (.lst (IL ns)), .val (.int (lst ns b)), c10, c11], gl⟩ = .ok .nx ⟨[.val (.ref 1), c1, c2, c3', c4, c5, c6, c7, .own (.lst (IL ns')), .val (.int (lst ns' b)), c10, c11], gl'⟩ ∧
      Bx gl' ∧ ns'.length = ns.length + R.length ∧ NN (gapsP ns' b) ∧ NN ns' ∧ (∀ n ∈ ns', n < 2 ^ 98)
  | [], gl, ns, c3, hB, hl, hg, hn, h1, h2, h3 => ⟨ns, gl, c3, rfl, hB, rfl, hg, hn, h3⟩
  | d :: R, gl, ns, c3, hB, hl, hg, hn, h1, h2, h3 => by
    simp only [List.length_cons] at hl
    obtain ⟨t, gl1, d1, t0, t1, B1⟩ := draw_spec gl 3 hB (by omega) (by omega)
    have ht : t = 0 ∨ t = 1 ∨ t = 2 := by omega
    have ix : ∃ q : Int, 0 < q ∧ q ≤ 99999 ∧ ∀ s, opIx s (.d (.tup [.int 2, .int 200, .int 99999])) (.d (.int t)) = .ok (.d (.int q)) s := by
      rcases ht with rfl | rfl | rfl
      · exact ⟨2, by omega, by omega, fun s => q_ixT rfl⟩
      · exact ⟨200, by omega, by omega, fun s => q_ixT rfl⟩
      · exact ⟨99999, by omega, by omega, fun s => q_ixT rfl⟩
    obtain ⟨q, q0, q1, ix⟩ := ix
    obtain ⟨u, gl2, d2, u0, u1, B2⟩ := draw_spec gl1 q B1 q0 (by omega)
    have fa := fApp_ok (IL ns) (.int (lst ns b + 1 + u)) (by rw [List.length_map]; omega)
    have st : l__law_numbers_3 ⟨[.val (.ref 1), c1, c2, .val d, c4, c5, c6, c7, .own (.lst (IL ns)), .val (.int (lst ns b)), c10, c11], gl⟩ = .ok .nx ⟨[.val (.ref 1), c1, c2, .val d, c4, c5, c6, c7, .own (.lst (IL (ns ++ [lst ns b + 1 + u]))), .val (.int (lst ns b + 1 + u)), c10, c11], gl2⟩ := by
      simp [l__law_numbers_3, d1, ix, d2, as_d, fa]
    have ll := lst_snoc ns b (lst ns b + 1 + u)
    have gs := gapsP_snoc ns b (lst ns b + 1 + u)
    obtain ⟨ns', gl', c3', w, k1, k2, k3, k4, k5⟩ := nl_loop c1 c2 c4 c5 c6 c7 c10 c11 b hb hb2 R gl2 (ns ++ [lst ns b + 1 + u]) (.val d) B2 (by simp; omega) (by
        rw [gs]
        intro x m
        rcases List.mem_append.mp m with m | m
        · exact hg x m
        · rw [List.mem_singleton.mp m]; omega) (by
        intro x m
        rcases List.mem_append.mp m with m | m
        · exact hn x m
        · rw [List.mem_singleton.mp m]; omega) (by rw [ll]; omega) (by rw [ll]; simp; omega) (by
        intro x m
        rcases List.mem_append.mp m with m | m
        · exact h3 x m
        · rw [List.mem_singleton.mp m]; omega)
    rw [ll] at w
    refine ⟨ns', gl', c3', ?_, k1, by rw [k2]; simp; omega, k3, k4, k5⟩
    rw [forGo_cons, ap_tgName, as_d (by simp)]
    simp only [List.set_cons_succ, List.set_cons_zero, st]
    exact w
/-- the loop that writes -/
theorem nw_loop (gl : List MObj) (c0 c1 c2 c3 c6 c7 c9 : Slot) (ns gs : List Int) (hn : NB ns) (hg : NB gs) (hl : gs.length = ns.length) (h1 : ns.length ≤ 100) : ∀ (j i : Nat) (c5 : Slot), i + j = ns.length →
    ∃ c5', forGo (tgName 5) l__law_numbers_1 (rangeD i j) ⟨[c0, c1, c2, c3, .own (.lst (IL gs)), c5, c6, c7, .own (.lst (IL ns)), c9, .own (.lst (IL (flat (ns.take i)))), .own (.lst (IL (flat (gs.take i))))], gl⟩ = .ok .nx ⟨[c0, c1, c2, c3, .own (.lst (IL gs)), c5', c6, c7, .own (.lst (IL ns)), c9, .own (.lst (IL (flat ns))), .own (.lst (IL (flat gs)))], gl⟩
  | 0, i, c5, hi => by
    have e1 : ns.take i = ns := List.take_of_length_le (by omega)
    have e2 : gs.take i = gs := List.take_of_length_le (by omega)
    exact ⟨c5, by rw [e1, e2]; rfl⟩
  | j + 1, i, c5, hi => by
    have hi1 : i < ns.length := by omega
    have hi2 : i < gs.length := by omega
    obtain ⟨n, hn1⟩ : ∃ n, ns[i]? = some n := ⟨_, List.getElem?_eq_getElem hi1⟩
    obtain ⟨g, hg1⟩ : ∃ n, gs[i]? = some n := ⟨_, List.getElem?_eq_getElem hi2⟩
    have bn := hn n (List.mem_of_getElem? hn1)
    have bg := hg g (List.mem_of_getElem? hg1)
    have l1 := num_short n bn.2
    have l2 := num_short g bg.2
    have w1 := law_number_spec n gl bn.1 (by omega)
    have w2 := law_number_spec g gl bg.1 (by omega)
    have t1 : ns.take (i + 1) = ns.take i ++ [n] := by rw [List.take_succ, hn1]; rfl
    have t2 : gs.take (i + 1) = gs.take i ++ [g] := by rw [List.take_succ, hg1]; rfl
    have f1 : flat (ns.take (i + 1)) = flat (ns.take i) ++ num n := by rw [t1, flat_app, flat_cons]; simp [flat]
    have f2 : flat (gs.take (i + 1)) = flat (gs.take i) ++ num g := by rw [t2, flat_app, flat_cons]; simp [flat]
    have fl1 := flat_len (ns := ns.take i) fun x m => hn x (List.mem_of_mem_take m)
    have fl2 := flat_len (ns := gs.take i) fun x m => hg x (List.mem_of_mem_take m)
    rw [List.length_take] at fl1 fl2
    have i1 : ∀ s : S, asLst s (.at 8) = some (IL ns) → opIx s (.at 8) (.d (.int i)) = .ok (.d (.int n)) s := fun s h => q_ixL h (atI_il (by omega) (by simpa using hn1))
    have i2 : ∀ s : S, asLst s (.at 4) = some (IL gs) → opIx s (.at 4) (.d (.int i)) = .ok (.d (.int g)) s := fun s h => q_ixL h (atI_il (by omega) (by simpa using hg1))
    have a1 : ∀ s : S, asLst s (.at 10) = some (IL (flat (ns.take i))) → opAdd s (.at 10) (.d (.lst (IL (num n)))) = .ok (.new (.lst (IL (flat (ns.take i) ++ num n)))) s := fun s h => q_addIL (by omega) h rfl
    have a2 : ∀ s : S, asLst s (.at 11) = some (IL (flat (gs.take i))) → opAdd s (.at 11) (.d (.lst (IL (num g)))) = .ok (.new (.lst (IL (flat (gs.take i) ++ num g)))) s := fun s h => q_addIL (by omega) h rfl
    obtain ⟨c5', ih⟩ := nw_loop gl c0 c1 c2 c3 c6 c7 c9 ns gs hn hg hl h1 j (i + 1) (.val (.int i)) (by omega)
    rw [f1, f2] at ih
    have st : l__law_numbers_1 ⟨[c0, c1, c2, c3, .own (.lst (IL gs)), .val (.int i), c6, c7, .own (.lst (IL ns)), c9, .own (.lst (IL (flat (ns.take i)))), .own (.lst (IL (flat (gs.take i))))], gl⟩ = .ok .nx ⟨[c0, c1, c2, c3, .own (.lst (IL gs)), .val (.int i), c6, c7, .own (.lst (IL ns)), c9, .own (.lst (IL (flat (ns.take i) ++ num n))), .own (.lst (IL (flat (gs.take i) ++ num g)))], gl⟩ := by
      simp [-List.map_append, -List.map_take, l__law_numbers_1, i1, i2, asLst, w1, w2, a1, a2, as_new]
    refine ⟨c5', ?_⟩
    rw [rangeD, forGo_cons, ap_tgName, as_d (by simp)]
    simp only [List.set_cons_succ, List.set_cons_zero, st]
    exact ih
theorem gaps_comp (gl : List MObj) (c0 c1 c2 c3 c4 c6 c9 c10 c11 : Slot) (ns : List Int) (b : Int) (hl : ns.length ≤ 100) :
    mComp [5] (iRange1 (mACons (mFn1 fLen (mVar 8)) mANil)) (tgName 5) mYes e__law_numbers_2 ⟨[c0, c1, c2, c3, c4, .none, c6, .val (.int b), .own (.lst (IL ns)), c9, c10, c11], gl⟩ = .ok (.new (.lst (IL (gapsP ns b)))) ⟨[c0, c1, c2, c3, c4, .none, c6, .val (.int b), .own (.lst (IL ns)), c9, c10, c11], gl⟩ := by
  rw [← range_ints (gapsP ns b), gapsP_len]
  refine comp_mapI (List.range ns.length) (fun k => .int ((k : Nat) : Int)) (fun k => D.int ((gapsP ns b).getD k 0)) ?_ (by simp) rfl (by rw [List.length_range]; omega) fun i hi => ?_
  · have e : rangeD 0 ns.length = (List.range ns.length).map fun k => D.int ((k : Nat) : Int) := by
      rw [rangeD_map]
      exact List.map_congr_left fun k _ => by rw [Int.zero_add]
    have hr : rng1 (ns.length : Int) = some (rangeD 0 ns.length) := rng1_nat (by omega)
    simp [fLen, asD, lenD, hr, e]
  · have hi := List.mem_range.mp hi
    obtain ⟨n, hn⟩ : ∃ n, ns[i]? = some n := ⟨_, List.getElem?_eq_getElem hi⟩
    have hg := gapsP_get ns b i n hn
    have e2 : (gapsP ns b).getD i 0 = n - (if i = 0 then b else ns.getD (i - 1) 0) - 1 := by rw [List.getD_eq_getElem?_getD, hg]; rfl
    rw [e2]
    have i1 : ∀ s : S, asLst s (.at 8) = some (IL ns) → opIx s (.at 8) (.d (.int i)) = .ok (.d (.int n)) s := fun s h => q_ixL h (atI_il (by omega) (by simpa using hn))
    by_cases h0 : i = 0
    · subst h0
      simp only [Int.natCast_zero] at i1
      simp [e__law_numbers_2, i1, asLst]
    · have hp : (0 : Int) < i := by omega
      have h1 : i - 1 < ns.length := by omega
      have i2 : ∀ s : S, asLst s (.at 8) = some (IL ns) → opIx s (.at 8) (.d (.int ((i : Int) - 1))) = .ok (.d (.int (ns.getD (i - 1) 0))) s := fun s h => q_ixL h (atI_il (by omega) (by
        have : ((i : Int) - 1).toNat = i - 1 := by omega
        rw [this, List.getD_eq_getElem?_getD, List.getElem?_eq_getElem h1]
        rfl))
      have hp' : 0 < i := by omega
      simp [-List.getD_eq_getElem?_getD, e__law_numbers_2, i1, i2, asLst, h0, hp']
theorem numbers_spec (gl : List MObj) (hB : Bx gl) (hh tt : List Int) (h1 : hh.length ≤ 1000) (h2 : tt.length ≤ 10000) : ∃ gl', f__law_numbers [.ref 1, .tup (IL hh), .tup (IL tt)] gl = .ok (.bl true) gl' ∧ Bx gl' := by
  obtain ⟨b9, gl1, d1, b0, b1, B1⟩ := draw_spec gl 9 hB (by omega) (by omega)
  obtain ⟨c, gl2, d2, c0, c1, B2⟩ := draw_spec gl1 6 B1 (by omega) (by omega)
  have hr := rng1_ok c0 (by omega : c ≤ 1000000)
  have hb : ∃ b : Int, b = b9 - 1 := ⟨_, rfl⟩
  obtain ⟨b, hb⟩ := hb
  obtain ⟨ns, gl3, c3', w, B3, k2, k3, k4, k5⟩ := nl_loop (.val (.tup (IL hh))) (.val (.tup (IL tt))) .none .none (.val (.int hh.length)) (.val (.int b)) .none .none b (by omega) (by omega) (rangeD 0 c.toNat) gl2 [] .none B2 (by rw [rangeD_length]; simp; omega) (fun _ h => by cases h) (fun _ h => by cases h) (Int.le_refl _) (by show b ≤ _; simp; omega) (fun _ h => by cases h)
  rw [rangeD_length] at k2
  have kl : ns.length ≤ 5 := by simp at k2; omega
  have hnb : NB ns := fun n m => ⟨k4 n m, k5 n m⟩
  have hgb : NB (gapsP ns b) := by
    have key : ∀ (ns : List Int) (b : Int), -1 ≤ b → (∀ n ∈ ns, 0 ≤ n ∧ n < 2 ^ 98) → ∀ g ∈ gapsP ns b, g < 2 ^ 98 := by
      intro ns
      induction ns with
      | nil => intro b _ _ g m; cases m
      | cons n ns ih =>
        intro b hb h g m
        rcases List.mem_cons.mp m with rfl | m
        · have := h n List.mem_cons_self
          omega
        · exact ih n (by have := h n List.mem_cons_self; omega) (fun x m => h x (List.mem_cons_of_mem _ m)) g m
    exact fun g m => ⟨k3 g m, key ns b (by omega) hnb g m⟩
  have f1 := flat_len hnb
  have f2 := flat_len hgb
  rw [gapsP_len] at f2
  have gc := fun c0 c1 c2 c3 c4 c6 c9 c10 c11 => gaps_comp gl3 c0 c1 c2 c3 c4 c6 c9 c10 c11 ns b (by omega)
  obtain ⟨c5', nw⟩ := nw_loop gl3 (.val (.ref 1)) (.val (.tup (IL hh))) (.val (.tup (IL tt))) c3' (.val (.int hh.length)) (.val (.int b)) (.val (.int (lst ns b))) ns (gapsP ns b) hnb hgb (gapsP_len _ _) (by omega) ns.length 0 .none (by omega)
  have hr2 : rng1 (ns.length : Int) = some (rangeD 0 ns.length) := rng1_nat (by omega)
  have s1 := gaps_of_spec ns b gl3 (by omega)
  have s2 := numbers_of_spec (gapsP ns b) b gl3 (by rw [gapsP_len]; omega)
  rw [nums_gaps] at s2
  have s3 := numbers_bytes_spec ns gl3 k4 (by omega)
  have s4 := gap_bytes_spec ns b gl3 (by omega) k3 (by omega)
  have sm1 := same_refl gl3 6 (.tup [.lst (IL (gapsP ns b)), .lst (IL ns), .lst (IL (flat ns)), .lst (IL (flat (gapsP ns b)))]) (.tup _ _ (by simp) (.cons _ _ _ (pl_lstI _ _ (by rw [gapsP_len]; omega)) (.cons _ _ _ (pl_lstI _ _ (by omega)) (.cons _ _ _ (pl_lstI _ _ (by omega)) (.cons _ _ _ (pl_lstI _ _ (by omega)) (.nil _))))))
  have key : ∀ m : List Int, (m.length ≤ 75) → (∀ s, opAdd s (.d (.tup (IL hh))) (.d (.tup (IL m))) = .ok (.d (.tup (IL (hh ++ m)))) s) ∧ (∀ s, opAdd s (.d (.tup (IL (hh ++ m)))) (.d (.tup (IL tt))) = .ok (.d (.tup (IL (hh ++ m ++ tt)))) s) ∧ pos (hh ++ m ++ tt) (m ++ tt) = hh.length ∧ pos (hh ++ m ++ tt) tt = (hh.length : Int) + m.length ∧ (hh ++ m ++ tt).length ≤ 100000 ∧ (m ++ tt) <:+ (hh ++ m ++ tt) := fun m hm =>
    ⟨fun s => q_addI (by omega), fun s => q_addI (by rw [List.length_append]; omega), by unfold pos; simp, by unfold pos; simp; omega, by simp only [List.length_append]; omega, ⟨hh, by simp⟩⟩
  obtain ⟨a1, a2, p1, p2, p3, p4⟩ := key (flat ns) (by omega)
  obtain ⟨a3, a4, q1, q2, q3, q4⟩ := key (flat (gapsP ns b)) (by omega)
  have r1 := read_numbers_spec _ gl3 p3 ns tt k4 p4 (by omega)
  have r2 := read_gaps_spec _ gl3 q3 ns tt b k3 q4 (by omega)
  rw [p1, p2] at r1
  rw [q1, q2] at r2
  have sm2 := fun i => same_refl gl3 6 (.tup [.lst (IL ns), .int i]) (.tup _ _ (by simp) (.cons _ _ _ (pl_lstI _ _ (by omega)) (.cons _ _ _ (.int _ _) (.nil _))))
  refine ⟨gl3, ?_, B3⟩
  have z0 : flat [] = [] := rfl
  simp only [List.take_zero, z0, List.map_nil, Int.natCast_zero] at nw w
  rw [show lst [] b = b from rfl] at w
  simp [-ap_Comp, -List.map_append, -List.append_assoc, f__law_numbers, mDef, List.replicate, b__law_numbers, as_d, as_new, d1, ← hb, d2, hr, w, gc, hr2, fLen, asD, lenD, nw, s1, s2, s3, s4, sm1, truthD, a1, a2, a3, a4, r1, r2, sm2]
end K18
/-! # k18: the law's tries -/
namespace K18
open PySem PySem.Spec PyProof.Rows L2 MI
def Tr (d : List Int) : Prop := Byt d ∧ d.length ≤ 100000 ∧ 1 + big d ≤ 80
theorem try_step (d : List Int) (hT : Tr d) (gl : List MObj) (hB : Bx gl) (c0 c1 c2 c3 c5 c6 c7 c8 c9 c10 c11 c12 c13 c14 c15 c16 c17 c18 c19 c20 : Slot) :
    ∃ c15' c16' c17' c18' gl', l_law_3 ⟨[c0, c1, c2, c3, .val (.tup (IL d)), c5, c6, c7, c8, c9, c10, c11, c12, c13, c14, c15, c16, c17, c18, c19, c20], gl⟩ = .ok .nx ⟨[c0, c1, c2, c3, .val (.tup (IL d)), c5, c6, c7, c8, c9, c10, c11, c12, c13, c14, c15', c16', c17', c18', c19, c20], gl'⟩ ∧ Bx gl' := by
  obtain ⟨hb, hl, hN⟩ := hT
  obtain ⟨o, g⟩ := gr_total d.length d (Nat.le_refl _) hb 1
  have gs := good_spec d gl hl hb o g
  rcases told_spec d gl 80 hl hb hN o g with ⟨rfl, x, more, ht, hp⟩ | ⟨e, rfl, more, ht⟩
  · have lp := law_pack_spec (gl ++ more) 80 x d hp hl
    have pk := pack_spec (gl ++ more) hp hl
    have s1 := same_refl (gl ++ more) 6 .non (pl_non _ (by omega))
    have s2 := same_refl (gl ++ more) 6 (.tup (IL d)) (pl_tupI 4 d (by omega))
    refine ⟨.val (.int d.length), .val (.bl true), .val x, .val .non, gl ++ more, ?_, bx_more hB more⟩
    simp [l_law_3, gs, gres, as_d, ht, s1, asD, truthD, lp, pk, s2]
  · have s1 := same_refl (gl ++ more) 6 (.int ((d.length : Int) - e)) (pl_int _ (by omega) _)
    refine ⟨.val (.int ((d.length : Int) - e)), .val (.bl false), .val .non, .val (.int ((d.length : Int) - e)), gl ++ more, ?_, bx_more hB more⟩
    simp [l_law_3, gs, gres, as_d, ht, s1, asD, truthD]
theorem tries_loop (c0 c1 c2 c3 c5 c6 c7 c8 c9 c10 c11 c12 c13 c14 c19 c20 : Slot) : ∀ (ts : List (List Int)) (gl : List MObj) (c4 c15 c16 c17 c18 : Slot), (∀ d ∈ ts, Tr d) → Bx gl →
    ∃ c4' c15' c16' c17' c18' gl', forGo (tgName 4) l_law_3 (ts.map fun d => D.tup (IL d)) ⟨[c0, c1, c2, c3, c4, c5, c6, c7, c8, c9, c10, c11, c12, c13, c14, c15, c16, c17, c18, c19, c20], gl⟩ = .ok .nx ⟨[c0, c1, c2, c3, c4', c5, c6, c7, c8, c9, c10, c11, c12, c13, c14, c15', c16', c17', c18', c19, c20], gl'⟩ ∧ Bx gl'
  | [], gl, c4, c15, c16, c17, c18, hT, hB => ⟨c4, c15, c16, c17, c18, gl, rfl, hB⟩
  | d :: ts, gl, c4, c15, c16, c17, c18, hT, hB => by
    obtain ⟨c15', c16', c17', c18', gl1, st, B1⟩ := try_step d (hT d List.mem_cons_self) gl hB c0 c1 c2 c3 c5 c6 c7 c8 c9 c10 c11 c12 c13 c14 c15 c16 c17 c18 c19 c20
    obtain ⟨d4, d15, d16, d17, d18, gl', w, B'⟩ := tries_loop c0 c1 c2 c3 c5 c6 c7 c8 c9 c10 c11 c12 c13 c14 c19 c20 ts gl1 (.val (.tup (IL d))) c15' c16' c17' c18' (fun x m => hT x (List.mem_cons_of_mem _ m)) B1
    refine ⟨d4, d15, d16, d17, d18, gl', ?_, B'⟩
    rw [List.map_cons, forGo_cons, ap_tgName, as_d (by simp)]
    simp only [List.set_cons_succ, List.set_cons_zero, st]
    exact w
/-! ### parts of bytes -/
theorem byt_take {d : List Int} (h : Byt d) (k : Nat) : Byt (d.take k) := fun x m => h x (List.mem_of_mem_take m)
theorem byt_drop {d : List Int} (h : Byt d) (k : Nat) : Byt (d.drop k) := fun x m => h x (List.mem_of_mem_drop m)
theorem byt_one {b : Int} (h0 : 0 ≤ b) (h1 : b < 256) : Byt [b] := fun x m => by rw [List.mem_singleton.mp m]; exact ⟨h0, h1⟩
theorem big_take (d : List Int) (k : Nat) : big (d.take k) ≤ big d := by
  have := big_app (d.take k) (d.drop k)
  rw [List.take_append_drop] at this
  omega
theorem big_drop (d : List Int) (k : Nat) : big (d.drop k) ≤ big d := by
  have := big_app (d.take k) (d.drop k)
  rw [List.take_append_drop] at this
  omega
theorem big_one (b : Int) : big [b] ≤ 1 := by
  have := List.countP_le_length (p := fun b : Int => decide (128 ≤ b)) (l := [b])
  exact this
theorem big_le (d : List Int) : big d ≤ d.length := List.countP_le_length
theorem cut_hi' {α : Type} {xs : List α} {k : Nat} : cut xs none (some (k : Int)) = xs.take k := by
  unfold cut HT.sIx
  have e : ¬ ((k : Int) < 0) := by omega
  simp only [e, if_false, Int.toNat_natCast, List.drop_zero, Nat.sub_zero]
  by_cases h : k ≤ xs.length
  · rw [Nat.min_eq_left h]
  · rw [Nat.min_eq_right (by omega), List.take_of_length_le (Nat.le_refl _), List.take_of_length_le (by omega)]
/-- the drawn bytes -/
theorem bytes_of {ds ys : List D} (h : All2 (fun _ y => ∃ b : Int, y = .int b ∧ 0 ≤ b ∧ b < 256) ds ys) : ∃ l : List Int, ys = IL l ∧ l.length = ds.length ∧ Byt l := by
  induction h with
  | nil => exact ⟨[], rfl, rfl, fun _ h => by cases h⟩
  | cons hx _ ih =>
    obtain ⟨b, rfl, h1, h2⟩ := hx
    obtain ⟨l, rfl, h3, h4⟩ := ih
    refine ⟨b :: l, rfl, by simp [h3], fun x hx => ?_⟩
    rcases List.mem_cons.mp hx with rfl | hx
    · exact ⟨h1, h2⟩
    · exact h4 x hx
theorem elt4 (gl : List MObj) (hB : Bx gl) (c0 : Slot) (r : List Slot) :
    ∃ y gl', mLeak e_law_4 ⟨c0 :: .val (.ref 1) :: r, gl⟩ = .ok y ⟨c0 :: .val (.ref 1) :: r, gl'⟩ ∧ Bx gl' ∧ ∃ b : Int, y = .int b ∧ 0 ≤ b ∧ b < 256 := by
  obtain ⟨a, gl1, d1, a0, a1, B1⟩ := draw_spec gl 2 hB (by omega) (by omega)
  obtain ⟨t, gl2, d2, t0, t1, B2⟩ := draw_spec gl1 2 B1 (by omega) (by omega)
  have ht : t = 0 ∨ t = 1 := by omega
  have ix : ∃ q : Int, 0 < q ∧ q ≤ 128 ∧ ∀ s, opIx s (.d (.tup [.int 26, .int 128])) (.d (.int t)) = .ok (.d (.int q)) s := by
    rcases ht with rfl | rfl
    · exact ⟨26, by omega, by omega, fun s => q_ixT rfl⟩
    · exact ⟨128, by omega, by omega, fun s => q_ixT rfl⟩
  obtain ⟨q, q0, q1, ix⟩ := ix
  obtain ⟨b, gl3, d3, b0, b1, B3⟩ := draw_spec gl2 q B2 q0 (by omega)
  exact ⟨.int (128 * a + b), gl3, by simp [e_law_4, d1, d2, ix, d3, q_mulL], B3, _, rfl, by omega, by omega⟩
theorem elt2 (gl : List MObj) (hB : Bx gl) (c0 : Slot) (r : List Slot) :
    ∃ y gl', mLeak e_law_2 ⟨c0 :: .val (.ref 1) :: r, gl⟩ = .ok y ⟨c0 :: .val (.ref 1) :: r, gl'⟩ ∧ Bx gl' ∧ ∃ b : Int, y = .int b ∧ 0 ≤ b ∧ b < 256 := by
  obtain ⟨a, gl1, d1, a0, a1, B1⟩ := draw_spec gl 256 hB (by omega) (by omega)
  exact ⟨.int a, gl1, by simp [e_law_2, d1], B1, a, rfl, a0, a1⟩
theorem more_comp (gl : List MObj) (hB : Bx gl) (c0 c2 c3 c4 c5 c6 c7 c8 c9 c10 c11 c12 c13 c14 c15 c16 c17 c18 c19 : Slot) :
    ∃ (l : List Int) (gl' : List MObj), mComp [20] (iRange1 (mACons (mCall f__law_draw (mACons (mVar 1) (mACons (mC (.int 9)) mANil))) mANil)) (tgName 20) mYes e_law_4 ⟨[c0, .val (.ref 1), c2, c3, c4, c5, c6, c7, c8, c9, c10, c11, c12, c13, c14, c15, c16, c17, c18, c19, .none], gl⟩
      = .ok (.new (.lst (IL l))) ⟨[c0, .val (.ref 1), c2, c3, c4, c5, c6, c7, c8, c9, c10, c11, c12, c13, c14, c15, c16, c17, c18, c19, .none], gl'⟩ ∧ Bx gl' ∧ l.length ≤ 8 ∧ Byt l := by
  obtain ⟨k, gl1, d1, k0, k1, B1⟩ := draw_spec gl 9 hB (by omega) (by omega)
  have hr := rng1_ok k0 (by omega : k ≤ 1000000)
  obtain ⟨ys, gl', e, B, R⟩ := comp_inv (v := 20) (e := e_law_4) (it := iRange1 (mACons (mCall f__law_draw (mACons (mVar 1) (mACons (mC (.int 9)) mANil))) mANil)) (P := Bx) (R := fun _ y => ∃ b : Int, y = .int b ∧ 0 ≤ b ∧ b < 256) (env := [c0, .val (.ref 1), c2, c3, c4, c5, c6, c7, c8, c9, c10, c11, c12, c13, c14, c15, c16, c17, c18, c19, .none]) (gl := gl1) (ds := rangeD 0 k.toNat)
    (s0 := ⟨[c0, .val (.ref 1), c2, c3, c4, c5, c6, c7, c8, c9, c10, c11, c12, c13, c14, c15, c16, c17, c18, c19, .none], gl⟩) (by simp [d1, hr]) (by simp) rfl B1 (by rw [rangeD_length]; exact szN _ (by omega)) (fun d _ gl hB => elt4 gl hB c0 _)
  obtain ⟨l, rfl, hl, hb⟩ := bytes_of R
  rw [rangeD_length] at hl
  exact ⟨l, gl', e, B, by omega, hb⟩
theorem head_comp (gl : List MObj) (hB : Bx gl) (c0 c2 c3 c4 c5 c6 c7 c8 c9 c10 c11 c12 c13 c14 c15 c16 c17 c18 c19 : Slot) :
    ∃ (l : List Int) (gl' : List MObj), mComp [20] (iRange1 (mACons (mCall f__law_draw (mACons (mVar 1) (mACons (mC (.int 3)) mANil))) mANil)) (tgName 20) mYes e_law_2 ⟨[c0, .val (.ref 1), c2, c3, c4, c5, c6, c7, c8, c9, c10, c11, c12, c13, c14, c15, c16, c17, c18, c19, .none], gl⟩
      = .ok (.new (.lst (IL l))) ⟨[c0, .val (.ref 1), c2, c3, c4, c5, c6, c7, c8, c9, c10, c11, c12, c13, c14, c15, c16, c17, c18, c19, .none], gl'⟩ ∧ Bx gl' ∧ l.length ≤ 2 ∧ Byt l := by
  obtain ⟨k, gl1, d1, k0, k1, B1⟩ := draw_spec gl 3 hB (by omega) (by omega)
  have hr := rng1_ok k0 (by omega : k ≤ 1000000)
  obtain ⟨ys, gl', e, B, R⟩ := comp_inv (v := 20) (e := e_law_2) (it := iRange1 (mACons (mCall f__law_draw (mACons (mVar 1) (mACons (mC (.int 3)) mANil))) mANil)) (P := Bx) (R := fun _ y => ∃ b : Int, y = .int b ∧ 0 ≤ b ∧ b < 256) (env := [c0, .val (.ref 1), c2, c3, c4, c5, c6, c7, c8, c9, c10, c11, c12, c13, c14, c15, c16, c17, c18, c19, .none]) (gl := gl1) (ds := rangeD 0 k.toNat)
    (s0 := ⟨[c0, .val (.ref 1), c2, c3, c4, c5, c6, c7, c8, c9, c10, c11, c12, c13, c14, c15, c16, c17, c18, c19, .none], gl⟩) (by simp [d1, hr]) (by simp) rfl B1 (by rw [rangeD_length]; exact szN _ (by omega)) (fun d _ gl hB => elt2 gl hB c0 _)
  obtain ⟨l, rfl, hl, hb⟩ := bytes_of R
  rw [rangeD_length] at hl
  exact ⟨l, gl', e, B, by omega, hb⟩
/-! ### the text -/
def tx5 : List Int := [14, 0, 13, 1, 39]
theorem tx5_cut0 : ∀ k : Fin 6, cutS "a 9,z" none (some ((k.val : Nat) : Int)) = txt (tx5.take k.val) := by decide +kernel
theorem tx5_cut (k : Int) (h0 : 0 ≤ k) (h1 : k < 6) (s : S) : opSl none (some k) s (.d (.str "a 9,z")) = .ok (.d (.str (txt (tx5.take k.toNat)))) s := by
  have e := tx5_cut0 ⟨k.toNat, by omega⟩
  have ek : ((k.toNat : Nat) : Int) = k := by omega
  simp only at e
  rw [ek] at e
  have hz : ("a 9,z" : Str).length ≤ sizeLine := szN 5 (by omega)
  unfold opSl
  simp only [asTup, asLst, asScr, asStr]
  rw [if_pos hz, e]
theorem tx5_sgs (k : Nat) : Sgs (tx5.take k) := fun b m => by
  have := List.mem_of_mem_take m
  simp [tx5] at this
  omega
theorem tx5_len (k : Nat) : (tx5.take k).length ≤ 5 := by rw [List.length_take]; exact Nat.min_le_right _ _
theorem signs_comp (gl : List MObj) (l : List Int) (hs : Sgs l) (hl : l.length ≤ 100) (c0 c1 c2 c3 c4 c5 c6 c8 c9 c10 c11 c12 c13 c14 c15 c16 c17 c18 c20 : Slot) :
    mComp [19] (iStrM (mVar 7)) (tgName 19) mYes e_law_1 ⟨[c0, c1, c2, c3, c4, c5, c6, .val (.str (txt l)), c8, c9, c10, c11, c12, c13, c14, c15, c16, c17, c18, .none, c20], gl⟩
      = .ok (.new (.lst (IL l))) ⟨[c0, c1, c2, c3, c4, c5, c6, .val (.str (txt l)), c8, c9, c10, c11, c12, c13, c14, c15, c16, c17, c18, .none, c20], gl⟩ := by
  refine comp_mapI l (fun i => .str ⟨#[sgn i]⟩) D.int (by simp [signs_txt]) (by simp) rfl (by omega) fun i hi => ?_
  have := index_ok i (hs i hi).1 (hs i hi).2
  unfold SG at this
  simp [e_law_1, this]
end K18
/-! # k18: a turn of the law -/
namespace K18
open PySem PySem.Spec PyProof.Rows L2 MI
theorem turn (gl : List MObj) (hB : Bx gl) (c0 c2 c3 c4 c5 c6 c7 c8 c9 c10 c11 c12 c13 c14 c15 c16 c17 c18 : Slot) :
    ∃ d3 d4 d5 d6 d7 d8 d9 d10 d11 d12 d13 d14 d15 d16 d17 d18 gl', l_law_5 ⟨[c0, .val (.ref 1), c2, c3, c4, c5, c6, c7, c8, c9, c10, c11, c12, c13, c14, c15, c16, c17, c18, .none, .none], gl⟩ = .ok .nx ⟨[c0, .val (.ref 1), c2, d3, d4, d5, d6, d7, d8, d9, d10, d11, d12, d13, d14, d15, d16, d17, d18, .none, .none], gl'⟩ ∧ Bx gl' := by
  obtain ⟨x, gl1, v1, B1, l, pl, hl1, hl2⟩ := value_spec 3 4 (by omega) gl hB
  obtain ⟨y, gl2, v2, B2, m, pm, hm1, hm2⟩ := value_spec 2 4 (by omega) gl1 B1
  have v1 : f__law_value 4 [.ref 1, .int 3] gl = .ok x gl1 := v1
  have v2 : f__law_value 4 [.ref 1, .int 2] gl1 = .ok y gl2 := v2
  have hl1 : l.length ≤ 4000 := hl1
  have hl2 : big l ≤ 40 := hl2
  have hm1 : m.length ≤ 1300 := hm1
  have hm2 : big m ≤ 13 := hm2
  have lB := pk_byt pl
  have mB := pk_byt pm
  have lp := pk_pos pl
  have w1 := law_pack_spec gl2 80 x l (pl.mono (by omega)) (by omega)
  have w2 := law_pack_spec gl2 80 y m (pm.mono (by omega)) (by omega)
  have k1 := pack_spec gl2 pl (by omega)
  have k2 := pack_spec gl2 pm (by omega)
  have s1 := same_refl gl2 6 (.tup [.tup (IL l), .tup (IL m)]) (.tup _ _ (by simp) (.cons _ _ _ (pl_tupI 3 l (by omega)) (.cons _ _ _ (pl_tupI 3 m (by omega)) (.nil _))))
  have u1 : ∃ more, f_unpack [.tup (IL l)] gl2 = .ok x (gl2 ++ more) := by
    rcases unpack_spec l gl2 80 (by omega) lB (by omega) none (gr_whole pl) with ⟨_, x', more, h1, h2⟩ | ⟨e, h, _⟩
    · have := (pk_uniq (r := []) (r' := []) h2 pl rfl).1
      subst this
      exact ⟨more, h1⟩
    · cases h
  obtain ⟨mo1, u1⟩ := u1
  have u2 : ∃ more, f_unpack [.tup (IL m)] (gl2 ++ mo1) = .ok y (gl2 ++ mo1 ++ more) := by
    rcases unpack_spec m (gl2 ++ mo1) 80 (by omega) mB (by omega) none (gr_whole pm) with ⟨_, x', more, h1, h2⟩ | ⟨e, h, _⟩
    · have := (pk_uniq (r := []) (r' := []) h2 pm rfl).1
      subst this
      exact ⟨more, h1⟩
    · cases h
  obtain ⟨mo2, u2⟩ := u2
  have B3 := bx_more (bx_more B2 mo1) mo2
  generalize gl2 ++ mo1 ++ mo2 = gl3 at u2 B3
  have s2 := same_refl gl3 6 (.tup [x, y]) (.tup _ _ (by simp) (.cons _ _ _ (pk_pl (pl.mono (by omega)) (by omega)) (.cons _ _ _ (pk_pl (pm.mono (by omega)) (by omega)) (.nil _))))
  obtain ⟨q, hq, hq2⟩ := same_dec gl3 6 x y l m (pl.mono (by omega)) (pm.mono (by omega)) (by omega) (by omega)
  have hq3 : q = decide (l = m) := by
    have : x = y ↔ l = m := ⟨fun z => pk_det pl pm z, fun z => (pk_uniq (r := []) (r' := []) pl pm (by rw [z])).1⟩
    rw [Bool.eq_iff_iff, hq2, this]
    simp
  have eq1 : ∀ s n, opEq n s (.d (.tup (IL l))) (.d (.tup (IL m))) = .ok (.d (.bl (decide (l = m) != n))) s := fun s n => q_eqT
  have np1 : l ≠ m → l.take m.length ≠ m := fun h z => h (by
    have e : l = m ++ l.drop m.length := by conv => lhs; rw [← List.take_append_drop m.length l, z]
    exact (pk_uniq (r := []) (r' := l.drop m.length) pl pm (by rw [List.append_nil]; exact e)).2)
  have np2 : l ≠ m → m.take l.length ≠ l := fun h z => h (by
    have e : m = l ++ m.drop l.length := by conv => lhs; rw [← List.take_append_drop l.length m, z]
    exact ((pk_uniq (r := []) (r' := m.drop l.length) pm pl (by rw [List.append_nil]; exact e)).2).symm)
  have sl1 : ∀ s, opSl none (some (m.length : Int)) s (.d (.tup (IL l))) = .ok (.d (.tup (IL (l.take m.length)))) s := fun s => by rw [q_slT, cut_hi']
  have sl2 : ∀ s, opSl none (some (l.length : Int)) s (.d (.tup (IL m))) = .ok (.d (.tup (IL (m.take l.length)))) s := fun s => by rw [q_slT, cut_hi']
  have eq2 : ∀ s, opEq false s (.d (.tup (IL (l.take m.length)))) (.d (.tup (IL m))) = .ok (.d (.bl (decide (l.take m.length = m) != false))) s := fun s => q_eqT
  have eq3 : ∀ s, opEq false s (.d (.tup (IL (m.take l.length)))) (.d (.tup (IL l))) = .ok (.d (.bl (decide (m.take l.length = l) != false))) s := fun s => q_eqT
  have eqb : ∀ s (b : Bool), opEq true s (.d (.bl b)) (.d (.bl b)) = .ok (.d (.bl false)) s := fun s b => by cases b <;> rfl
  obtain ⟨k, gl4, d1, k0, kk, B4⟩ := draw_spec gl3 l.length B3 (by omega) (by omega)
  obtain ⟨b, gl5, d2, b0, b1, B5⟩ := draw_spec gl4 256 B4 (by omega) (by omega)
  obtain ⟨k, rfl⟩ : ∃ j : Nat, k = j := ⟨k.toNat, by omega⟩
  have hk : k < l.length := by omega
  obtain ⟨z8, gl6, mc, B6, h81, h82⟩ := more_comp gl5 B5 c0 c2 (.own (.lst [.tup (IL (l.take k)), .tup (IL (l.take k ++ [b] ++ l.drop (k + 1))), .tup (IL (l.take k ++ [b] ++ l.drop k)), .tup (IL (l.take k ++ l.drop (k + 1))), .tup (IL (l ++ m)), .tup (IL (l ++ [b])), .tup (IL (m ++ l.drop k))])) c4 c5 c6 c7 c8 (.val x) (.val y) (.val (.tup (IL l))) (.val (.tup (IL m))) (.val (.int k)) (.val (.int b)) c15 c16 c17 c18 .none
  have bt := byt_take lB k
  have bd := byt_drop lB k
  have bd1 := byt_drop lB (k + 1)
  have bb := byt_one b0 b1
  have gt := big_take l k
  have gd := big_drop l k
  have gk : big (l.take k) + big (l.drop k) = big l := by rw [← big_app, List.take_append_drop]
  have gd1 : big (l.drop (k + 1)) ≤ big (l.drop k) := by rw [← List.drop_drop]; exact big_drop _ 1
  have gb := big_one b
  have g8 := big_le z8
  have lt : (l.take k).length ≤ 4000 := by rw [List.length_take]; omega
  have ld : (l.drop k).length ≤ 4000 := by rw [List.length_drop]; omega
  have ld1 : (l.drop (k + 1)).length ≤ 4000 := by rw [List.length_drop]; omega
  have hT : ∀ d ∈ [l.take k, l.take k ++ [b] ++ l.drop (k + 1), l.take k ++ [b] ++ l.drop k, l.take k ++ l.drop (k + 1), l ++ m, l ++ [b], m ++ l.drop k, z8], Tr d := by
    intro d hd
    simp only [List.mem_cons, List.not_mem_nil, or_false] at hd
    rcases hd with rfl | rfl | rfl | rfl | rfl | rfl | rfl | rfl
    · exact ⟨bt, by omega, by omega⟩
    · exact ⟨byt_app (byt_app bt bb) bd1, by simp only [List.length_append, List.length_cons, List.length_nil]; omega, by rw [big_app, big_app]; omega⟩
    · exact ⟨byt_app (byt_app bt bb) bd, by simp only [List.length_append, List.length_cons, List.length_nil]; omega, by rw [big_app, big_app]; omega⟩
    · exact ⟨byt_app bt bd1, by simp only [List.length_append]; omega, by rw [big_app]; omega⟩
    · exact ⟨byt_app lB mB, by simp only [List.length_append]; omega, by rw [big_app]; omega⟩
    · exact ⟨byt_app lB bb, by simp only [List.length_append, List.length_cons, List.length_nil]; omega, by rw [big_app]; omega⟩
    · exact ⟨byt_app mB bd, by simp only [List.length_append]; omega, by rw [big_app]; omega⟩
    · exact ⟨h82, by omega, by omega⟩
  obtain ⟨e4, e15, e16, e17, e18, gl7, tl, B7⟩ := tries_loop c0 (.val (.ref 1)) c2 (.val (.lst ([l.take k, l.take k ++ [b] ++ l.drop (k + 1), l.take k ++ [b] ++ l.drop k, l.take k ++ l.drop (k + 1), l ++ m, l ++ [b], m ++ l.drop k, z8].map fun d => D.tup (IL d)))) c5 c6 c7 c8 (.val x) (.val y) (.val (.tup (IL l))) (.val (.tup (IL m))) (.val (.int k)) (.val (.int b)) .none .none _ gl6 c4 c15 c16 c17 c18 hT B6
  obtain ⟨hh, gl8, hc, B8, hh1, hh2⟩ := head_comp gl7 B7 c0 c2 (.val (.lst ([l.take k, l.take k ++ [b] ++ l.drop (k + 1), l.take k ++ [b] ++ l.drop k, l.take k ++ l.drop (k + 1), l ++ m, l ++ [b], m ++ l.drop k, z8].map fun d => D.tup (IL d)))) e4 c5 c6 c7 c8 (.val x) (.val y) (.val (.tup (IL l))) (.val (.tup (IL m))) (.val (.int k)) (.val (.int b)) e15 e16 e17 e18 .none
  obtain ⟨gl9, ns, B9⟩ := numbers_spec gl8 B8 hh m (by omega) (by omega)
  obtain ⟨n, gla, d3, n0, n1, Ba⟩ := draw_spec gl9 9999999 B9 (by omega) (by omega)
  have nl := num_short n (by omega)
  have nb1 := number_bytes_spec n gla n0 (by omega)
  have nb2 := law_number_spec n gla n0 (by omega)
  have a1 : ∀ s, opAdd s (.d (.tup (IL hh))) (.d (.tup (IL (num n)))) = .ok (.d (.tup (IL (hh ++ num n)))) s := fun s => q_addI (by omega)
  have a2 : ∀ s, opAdd s (.d (.tup (IL (hh ++ num n)))) (.d (.tup (IL m))) = .ok (.d (.tup (IL (hh ++ num n ++ m)))) s := fun s => q_addI (by rw [List.length_append]; omega)
  have rn := read_number_spec (d := hh ++ num n ++ m) (r := num n ++ m) gla (by simp only [List.length_append]; omega) ⟨hh, by simp⟩
  rw [rd_num n n0] at rn
  obtain ⟨_, rn⟩ := rn
  rw [show pos (hh ++ num n ++ m) (num n ++ m) = hh.length by unfold pos; simp, show pos (hh ++ num n ++ m) m = (hh.length : Int) + (num n).length by unfold pos; simp; omega] at rn
  have s3 := same_refl gla 6 (.tup [.lst (IL (num n)), .tup [.int n, .int ((hh.length : Int) + (num n).length)]]) (.tup _ _ (by simp) (.cons _ _ _ (pl_lstI 3 _ (by omega)) (.cons _ _ _ (.tup _ _ (by simp) (.cons _ _ _ (.int _ _) (.cons _ _ _ (.int _ _) (.nil _)))) (.nil _))))
  obtain ⟨t, glb, d4, t0, t1, Bb⟩ := draw_spec gla 6 Ba (by omega) (by omega)
  have cu := tx5_cut t t0 t1
  have ts := tx5_sgs t.toNat
  have tl5 := tx5_len t.toNat
  generalize tx5.take t.toNat = tx at cu ts tl5
  have sc := fun c0 c1 c2 c3 c4 c5 c6 c8 c9 c10 c11 c12 c13 c14 c15 c16 c17 c18 c20 => signs_comp glb tx ts (by omega) c0 c1 c2 c3 c4 c5 c6 c8 c9 c10 c11 c12 c13 c14 c15 c16 c17 c18 c20
  have sb := sign_bytes_spec tx glb ts (by omega)
  have a3 : ∀ s, opAdd s (.d (.tup (IL hh))) (.d (.tup (IL tx))) = .ok (.d (.tup (IL (hh ++ tx)))) s := fun s => q_addI (by omega)
  have a4 : ∀ s, opAdd s (.d (.tup (IL (hh ++ tx)))) (.d (.tup (IL m))) = .ok (.d (.tup (IL (hh ++ tx ++ m)))) s := fun s => q_addI (by rw [List.length_append]; omega)
  have txB : Byt tx := fun b h => ⟨(ts b h).1, by have := (ts b h).2; omega⟩
  have rs := read_signs_spec (hh ++ tx ++ m) glb (by simp only [List.length_append]; omega) (byt_app (byt_app hh2 txB) mB) tx.length (tx ++ m) ⟨hh, by simp⟩
  rw [sgs_app tx m fun b h => (ts b h).2, show pos (hh ++ tx ++ m) (tx ++ m) = hh.length by unfold pos; simp] at rs
  simp only at rs
  have tlen : ∀ s, fLen s (.d (.str (txt tx))) = .ok (.d (.int tx.length)) s := fun s => by
    unfold fLen
    simp only [asD, Option.bind_some, lenD, txt_len]
    rw [if_pos (szN _ (by omega))]
  obtain ⟨bk, hbk⟩ : ∃ z, l[k]? = some z := ⟨_, List.getElem?_eq_getElem hk⟩
  have dk : l.drop k = bk :: l.drop (k + 1) := by
    rw [List.drop_eq_getElem_cons hk]
    congr 1
    rw [List.getElem?_eq_getElem hk] at hbk
    exact Option.some.inj hbk
  have by1 := byte_ok (d := l) (r := l.drop (k + 1)) (b := bk) glb (by rw [← dk]; exact List.drop_suffix _ _)
  rw [show pos l (bk :: l.drop (k + 1)) = k by rw [← dk]; unfold pos; rw [List.length_drop]; omega] at by1
  have ixk : ∀ s, opIx s (.d (.tup (IL l))) (.d (.int k)) = .ok (.d (.int bk)) s := fun s => q_ixT (atI_il (by omega) (by simpa using hbk))
  have s4 := same_refl glb 6 (.tup [.lst (IL tx), .str (txt tx), .int bk]) (.tup _ _ (by simp) (.cons _ _ _ (pl_lstI 3 _ (by omega)) (.cons _ _ _ (.str _ _) (.cons _ _ _ (.int _ _) (.nil _)))))
  have sk1 : ∀ s, opSl none (some (k : Int)) s (.d (.tup (IL l))) = .ok (.d (.tup (IL (l.take k)))) s := fun s => by rw [q_slT, cut_hi']
  have sk2 : ∀ s, opSl (some ((k : Int) + 1)) none s (.d (.tup (IL l))) = .ok (.d (.tup (IL (l.drop (k + 1))))) s := fun s => by
    rw [q_slT, show ((k : Int) + 1) = ((k + 1 : Nat) : Int) by omega, cut_lo (by omega)]
  have sk3 : ∀ s, opSl (some (k : Int)) none s (.d (.tup (IL l))) = .ok (.d (.tup (IL (l.drop k)))) s := fun s => by rw [q_slT, cut_lo (by omega)]
  have p1 : ∀ s, opAdd s (.d (.tup (IL (l.take k)))) (.d (.tup [.int b])) = .ok (.d (.tup (IL (l.take k ++ [b])))) s := fun s => q_addI (b := [b]) (by simp; omega)
  have p2 : ∀ s, opAdd s (.d (.tup (IL (l.take k ++ [b])))) (.d (.tup (IL (l.drop (k + 1))))) = .ok (.d (.tup (IL (l.take k ++ [b] ++ l.drop (k + 1))))) s := fun s => q_addI (by simp only [List.length_append, List.length_cons, List.length_nil]; omega)
  have p3 : ∀ s, opAdd s (.d (.tup (IL (l.take k ++ [b])))) (.d (.tup (IL (l.drop k)))) = .ok (.d (.tup (IL (l.take k ++ [b] ++ l.drop k)))) s := fun s => q_addI (by simp only [List.length_append, List.length_cons, List.length_nil]; omega)
  have p4 : ∀ s, opAdd s (.d (.tup (IL (l.take k)))) (.d (.tup (IL (l.drop (k + 1))))) = .ok (.d (.tup (IL (l.take k ++ l.drop (k + 1))))) s := fun s => q_addI (by omega)
  have p5 : ∀ s, opAdd s (.d (.tup (IL l))) (.d (.tup (IL m))) = .ok (.d (.tup (IL (l ++ m)))) s := fun s => q_addI (by omega)
  have p6 : ∀ s, opAdd s (.d (.tup (IL l))) (.d (.tup [.int b])) = .ok (.d (.tup (IL (l ++ [b])))) s := fun s => q_addI (b := [b]) (by simp; omega)
  have p7 : ∀ s, opAdd s (.d (.tup (IL m))) (.d (.tup (IL (l.drop k)))) = .ok (.d (.tup (IL (m ++ l.drop k)))) s := fun s => q_addI (by omega)
  have sz7 : 7 ≤ sizeLine := szN _ (by omega)
  refine ⟨.val (.lst ([l.take k, l.take k ++ [b] ++ l.drop (k + 1), l.take k ++ [b] ++ l.drop k, l.take k ++ l.drop (k + 1), l ++ m, l ++ [b], m ++ l.drop k, z8].map fun d => D.tup (IL d))), e4, .val (.tup (IL hh)), .val (.int n), .val (.str (txt tx)), .val (.lst (IL tx)), .val x, .val y, .val (.tup (IL l)), .val (.tup (IL m)), .val (.int k), .val (.int b), e15, e16, e17, e18, glb, ?_, Bb⟩
  unfold l_law_5
  refine (seq_nx (s1 := ⟨[c0, .val (.ref 1), c2, c3, c4, c5, c6, c7, c8, .val x, .val y, c11, c12, c13, c14, c15, c16, c17, c18, .none, .none], gl2⟩) (by simp [v1, v2, as_d])).trans ?_
  refine (seq_nx (s1 := ⟨[c0, .val (.ref 1), c2, c3, c4, c5, c6, c7, c8, .val x, .val y, .val (.tup (IL l)), .val (.tup (IL m)), c13, c14, c15, c16, c17, c18, .none, .none], gl2⟩) (by simp [w1, w2, as_d])).trans ?_
  refine (seq_nx (s1 := ⟨[c0, .val (.ref 1), c2, c3, c4, c5, c6, c7, c8, .val x, .val y, .val (.tup (IL l)), .val (.tup (IL m)), c13, c14, c15, c16, c17, c18, .none, .none], gl3⟩) (by simp [k1, k2, s1, u1, u2, s2, asD, truthD])).trans ?_
  refine (seq_nx (s1 := ⟨[c0, .val (.ref 1), c2, c3, c4, c5, c6, c7, c8, .val x, .val y, .val (.tup (IL l)), .val (.tup (IL m)), c13, c14, c15, c16, c17, c18, .none, .none], gl3⟩) (by
    by_cases hlm : l = m
    · subst hlm
      simp [hq, hq3, eq1, eqb, asD, truthD]
    · simp [-List.map_take, hq, hq3, eq1, eqb, asD, truthD, hlm, asInt, sl1, sl2, eq2, eq3, np1 hlm, np2 hlm])).trans ?_
  refine (seq_nx (s1 := ⟨[c0, .val (.ref 1), c2, c3, c4, c5, c6, c7, c8, .val x, .val y, .val (.tup (IL l)), .val (.tup (IL m)), .val (.int k), .val (.int b), c15, c16, c17, c18, .none, .none], gl5⟩) (by simp [d1, d2, as_d])).trans ?_
  refine (seq_nx (s1 := ⟨[c0, .val (.ref 1), c2, .own (.lst [.tup (IL (l.take k)), .tup (IL (l.take k ++ [b] ++ l.drop (k + 1))), .tup (IL (l.take k ++ [b] ++ l.drop k)), .tup (IL (l.take k ++ l.drop (k + 1))), .tup (IL (l ++ m)), .tup (IL (l ++ [b])), .tup (IL (m ++ l.drop k))]), c4, c5, c6, c7, c8, .val x, .val y, .val (.tup (IL l)), .val (.tup (IL m)), .val (.int k), .val (.int b), c15, c16, c17, c18, .none, .none], gl5⟩) (by simp [-List.map_take, -List.map_drop, -List.map_append, -List.append_assoc, as_new, asInt, sk1, sk2, sk3, p1, p2, p3, p4, p5, p6, p7, sz7])).trans ?_
  refine (seq_nx (s1 := ⟨[c0, .val (.ref 1), c2, .own (.lst ([l.take k, l.take k ++ [b] ++ l.drop (k + 1), l.take k ++ [b] ++ l.drop k, l.take k ++ l.drop (k + 1), l ++ m, l ++ [b], m ++ l.drop k, z8].map fun d => D.tup (IL d))), c4, c5, c6, c7, c8, .val x, .val y, .val (.tup (IL l)), .val (.tup (IL m)), .val (.int k), .val (.int b), c15, c16, c17, c18, .none, .none], gl6⟩) (by simp [-ap_Comp, -List.map_take, -List.map_drop, -List.map_append, -List.append_assoc, mc, fApp_ok])).trans ?_
  refine (seq_nx (s1 := ⟨[c0, .val (.ref 1), c2, .val (.lst ([l.take k, l.take k ++ [b] ++ l.drop (k + 1), l.take k ++ [b] ++ l.drop k, l.take k ++ l.drop (k + 1), l ++ m, l ++ [b], m ++ l.drop k, z8].map fun d => D.tup (IL d))), e4, c5, c6, c7, c8, .val x, .val y, .val (.tup (IL l)), .val (.tup (IL m)), .val (.int k), .val (.int b), e15, e16, e17, e18, .none, .none], gl7⟩) (by
    rw [← tl]
    simp [-List.map_take, -List.map_drop, -List.map_append, -List.append_assoc])).trans ?_
  refine (seq_nx (s1 := ⟨[c0, .val (.ref 1), c2, .val (.lst ([l.take k, l.take k ++ [b] ++ l.drop (k + 1), l.take k ++ [b] ++ l.drop k, l.take k ++ l.drop (k + 1), l ++ m, l ++ [b], m ++ l.drop k, z8].map fun d => D.tup (IL d))), e4, .val (.tup (IL hh)), c6, c7, c8, .val x, .val y, .val (.tup (IL l)), .val (.tup (IL m)), .val (.int k), .val (.int b), e15, e16, e17, e18, .none, .none], gl8⟩) (by
    rw [ap_Set, ap_Fn1, hc]
    rfl)).trans ?_
  clear tl hc mc hT
  generalize (D.lst ([l.take k, l.take k ++ [b] ++ l.drop (k + 1), l.take k ++ [b] ++ l.drop k, l.take k ++ l.drop (k + 1), l ++ m, l ++ [b], m ++ l.drop k, z8].map fun d => D.tup (IL d))) = TT
  refine (seq_nx (s1 := ⟨[c0, .val (.ref 1), c2, .val TT, e4, .val (.tup (IL hh)), c6, c7, c8, .val x, .val y, .val (.tup (IL l)), .val (.tup (IL m)), .val (.int k), .val (.int b), e15, e16, e17, e18, .none, .none], gl9⟩) (by simp [ns, asD, truthD])).trans ?_
  refine (seq_nx (s1 := ⟨[c0, .val (.ref 1), c2, .val TT, e4, .val (.tup (IL hh)), .val (.int n), c7, c8, .val x, .val y, .val (.tup (IL l)), .val (.tup (IL m)), .val (.int k), .val (.int b), e15, e16, e17, e18, .none, .none], gla⟩) (by simp [d3, as_d])).trans ?_
  refine (seq_nx (s1 := ⟨[c0, .val (.ref 1), c2, .val TT, e4, .val (.tup (IL hh)), .val (.int n), c7, c8, .val x, .val y, .val (.tup (IL l)), .val (.tup (IL m)), .val (.int k), .val (.int b), e15, e16, e17, e18, .none, .none], gla⟩) (by simp [-List.map_append, -List.append_assoc, nb1, nb2, a1, a2, rn, s3, asD, truthD])).trans ?_
  refine (seq_nx (s1 := ⟨[c0, .val (.ref 1), c2, .val TT, e4, .val (.tup (IL hh)), .val (.int n), .val (.str (txt tx)), c8, .val x, .val y, .val (.tup (IL l)), .val (.tup (IL m)), .val (.int k), .val (.int b), e15, e16, e17, e18, .none, .none], glb⟩) (by simp [d4, asInt, cu, as_d])).trans ?_
  refine (seq_nx (s1 := ⟨[c0, .val (.ref 1), c2, .val TT, e4, .val (.tup (IL hh)), .val (.int n), .val (.str (txt tx)), .own (.lst (IL tx)), .val x, .val y, .val (.tup (IL l)), .val (.tup (IL m)), .val (.int k), .val (.int b), e15, e16, e17, e18, .none, .none], glb⟩) (by simp [-ap_Comp, sc, as_new])).trans ?_
  simp [-List.map_append, -List.append_assoc, sb, fTuple, asItems, asTup, asLst, a3, a4, rs, tlen, by1, ixk, s4, asD, truthD]
end K18
/-! # k18: the law -/
namespace K18
open PySem PySem.Spec PyProof.Rows L2 MI
theorem turns_loop (c0 : Slot) : ∀ (R : List D) (gl : List MObj) (c2 c3 c4 c5 c6 c7 c8 c9 c10 c11 c12 c13 c14 c15 c16 c17 c18 : Slot), Bx gl →
    ∃ e gl', forGo (tgName 2) l_law_5 R ⟨[c0, .val (.ref 1), c2, c3, c4, c5, c6, c7, c8, c9, c10, c11, c12, c13, c14, c15, c16, c17, c18, .none, .none], gl⟩ = .ok .nx ⟨e, gl'⟩ ∧ Bx gl'
  | [], gl, c2, c3, c4, c5, c6, c7, c8, c9, c10, c11, c12, c13, c14, c15, c16, c17, c18, hB => ⟨_, gl, rfl, hB⟩
  | d :: R, gl, c2, c3, c4, c5, c6, c7, c8, c9, c10, c11, c12, c13, c14, c15, c16, c17, c18, hB => by
    obtain ⟨d3, d4, d5, d6, d7, d8, d9, d10, d11, d12, d13, d14, d15, d16, d17, d18, gl1, st, B1⟩ := turn gl hB c0 (.val d) c3 c4 c5 c6 c7 c8 c9 c10 c11 c12 c13 c14 c15 c16 c17 c18
    obtain ⟨e, gl', w, B'⟩ := turns_loop c0 R gl1 (.val d) d3 d4 d5 d6 d7 d8 d9 d10 d11 d12 d13 d14 d15 d16 d17 d18 B1
    refine ⟨e, gl', ?_, B'⟩
    rw [forGo_cons, ap_tgName, as_d (by simp)]
    simp only [List.set_cons_succ, List.set_cons_zero, st]
    exact w
theorem num_one (n : Int) (h0 : 0 ≤ n) (h1 : n < 128) : num n = [128 + n] := by
  unfold num
  have e1 : n.toNat / 128 = 0 := by omega
  have e2 : n % 128 = n := by omega
  rw [e1, digs_0, e2]
  rfl
theorem ab_txt : (.str "ab" : D) = .str (txt [14, 15]) := by
  have : ("ab" : Str) = txt [14, 15] := by decide +kernel
  rw [this]
theorem pk_end : Pk 2 (.tup [.int 1, .str "ab", .non, .int (-3)]) [151, 133, 140, 14, 15, 132, 139] := by
  have h := Pk.tup 1 [.int 1, .str (txt [14, 15]), .non, .int (-3)] _ (.cons _ _ _ _ _ (.atom 0 (.int 1) 5 rfl) (.cons _ _ _ _ _ (.str 0 [14, 15] (fun b m => by simp at m; omega)) (.cons _ _ _ _ _ (.atom 0 .non 4 rfl) (.cons _ _ _ _ _ (.atom 0 (.int (-3)) 11 rfl) (.nil _)))))
  rw [← ab_txt] at h
  have e : num (5 * (([D.int 1, .str "ab", .non, .int (-3)] : List D).length : Nat) + 3) ++ (num 5 ++ (num (5 * (([14, 15] : List Int).length : Nat) + 2) ++ [14, 15] ++ (num 4 ++ (num 11 ++ [])))) = [151, 133, 140, 14, 15, 132, 139] := by
    rw [num_one _ (by simp) (by simp), num_one 5 (by omega) (by omega), num_one _ (by simp) (by simp), num_one 4 (by omega) (by omega), num_one 11 (by omega) (by omega)]
    rfl
  rw [← e]
  exact h
theorem gr_end : GR 1 [147] (some 1) := by
  refine .err 0 [147] 1 ?_
  have e : ([147] : List Int) = num 19 ++ [] := by rw [num_one 19 (by omega) (by omega)]; rfl
  rw [e]
  unfold item
  rw [rd_num 19 (by omega)]
  rfl
theorem plain : ∀ ns : List Int, ns.length ≤ 63 → ∃ gl, f_law [.scr (ns.map D.int)] [] = .ok (.bl true) gl := by
  intro ns _
  obtain ⟨gl, hb, hB⟩ := box_spec ns
  obtain ⟨e, gl', w, B'⟩ := turns_loop (.val (.scr (ns.map D.int))) (rangeD 0 5) gl .none .none .none .none .none .none .none .none .none .none .none .none .none .none .none .none .none hB
  have pk := pack_spec gl' pk_end (by simp)
  have ht : ∃ more, f__law_told [.tup [.int 147]] gl' = .ok (.tup [.non, .int 0]) (gl' ++ more) := by
    rcases told_spec [147] gl' 80 (by simp) (fun b m => by simp at m; omega) (by simp [big]) _ gr_end with ⟨h, _⟩ | ⟨e, h, more, h2⟩
    · cases h
    · cases h
      exact ⟨more, h2⟩
  obtain ⟨more, ht⟩ := ht
  have hr : rng1 5 = some (rangeD 0 5) := rng1_ok (by omega) (by omega)
  have es : ∀ (s : S) (z : Str), opEq true s (.d (.str z)) (.d (.str z)) = .ok (.d (.bl false)) s := fun s z => by
    simp [opEq, asD, eqvO, eqS]
  have e1 : ∀ s : S, opEq false s (.d (.tup (IL [151, 133, 140, 14, 15, 132, 139]))) (.d (.tup (IL [151, 133, 140, 14, 15, 132, 139]))) = .ok (.d (.bl true)) s := fun s => by
    rw [q_eqT]
    simp
  simp only [List.map_cons, List.map_nil] at pk e1
  have sz7 : 7 ≤ sizeLine := szN _ (by omega)
  refine ⟨gl' ++ more, ?_⟩
  simp [f_law, mDef, List.replicate, b_law, hb, as_d, es, hr, w, pk, e1, ht, sz7, asD, truthD, q_ixT, atI, ixN]
end K18
namespace K18
open PySem PySem.Spec PyProof.Rows L2 MI
abbrev mt (i j : Nat) : Stmt := inClass (tp i) j
theorem bbs_BadBytes : BbS PySem.Challenge.pw_postingstold_k18_whole_numbers_and_value (defArgs (mt 2 0)) (defScope (mt 2 0)) (bbOf (defBody (mt 2 0))) "place" "BadBytes.__init__" := ⟨by decide +kernel, fun env h => ⟨_, by cases env; cases h; rfl⟩, fun env h => (by cases env; cases h; exact ⟨rfl, rfl, rfl⟩), fun env h => (by cases env; cases h; exact ⟨rfl, rfl⟩), ⟨_, rfl, rfl⟩, fun _ _ _ _ _ _ _ _ => rfl, rfl, rfl, rfl, by decide +kernel, by decide +kernel, by decide +kernel, by decide +kernel, by decide +kernel, by decide +kernel, by decide +kernel⟩
def hdFa : List He.Fa := [.free "len", .glo "byte_at", .int "GROUP" 128, .glo "number_bytes", .glo "read_number", .glo "numbers_bytes", .glo "read_numbers", .glo "gaps_of", .glo "numbers_of", .glo "gap_bytes", .glo "read_gaps", .str "SIGNS" " ,-.0123456789abcdefghijklmnopqrstuvwxyz", .glo "sign_bytes", .free "min", .free "range", .glo "read_signs", .int "KINDS" 5, .free "isinstance", .free "str", .int "TEXT" 2, .int "TUPLE" 3, .free "int", .int "ABOVE" 0, .int "BELOW" 1, .free "bool", .int "BARE_KIND" 4, .glo "head_of", .free "tuple", .glo "pack", .glo "read_bare", .glo "unpack", .free "list", .glo "_law_box", .glo "_law_load", .glo "_law_draw", .free "all", .glo "_law_same", .glo "_law_number", .glo "_law_head", .glo "_law_pack", .glo "_law_value", .glo "_law_good", .glo "_law_told", .glo "_law_numbers", .glo "law"]
def hdFn : List He.DefD := [⟨("byte_at", none), "byte_at", "byte_at", defArgs (tp 5), defBody (tp 5), defScope (tp 5), [], []⟩, ⟨("number_bytes", none), "number_bytes", "number_bytes", defArgs (tp 6), defBody (tp 6), defScope (tp 6), [], []⟩, ⟨("read_number", none), "read_number", "read_number", defArgs (tp 7), defBody (tp 7), defScope (tp 7), [], []⟩, ⟨("numbers_bytes", none), "numbers_bytes", "numbers_bytes", defArgs (tp 8), defBody (tp 8), defScope (tp 8), [], []⟩, ⟨("read_numbers", none), "read_numbers", "read_numbers", defArgs (tp 9), defBody (tp 9), defScope (tp 9), [], []⟩, ⟨("gaps_of", none), "gaps_of", "gaps_of", defArgs (tp 10), defBody (tp 10), defScope (tp 10), [], []⟩, ⟨("numbers_of", none), "numbers_of", "numbers_of", defArgs (tp 11), defBody (tp 11), defScope (tp 11), [], []⟩, ⟨("gap_bytes", none), "gap_bytes", "gap_bytes", defArgs (tp 12), defBody (tp 12), defScope (tp 12), [], []⟩, ⟨("read_gaps", none), "read_gaps", "read_gaps", defArgs (tp 13), defBody (tp 13), defScope (tp 13), [], []⟩, ⟨("sign_bytes", none), "sign_bytes", "sign_bytes", defArgs (tp 23), defBody (tp 23), defScope (tp 23), [], []⟩, ⟨("read_signs", none), "read_signs", "read_signs", defArgs (tp 24), defBody (tp 24), defScope (tp 24), [], []⟩, ⟨("head_of", none), "head_of", "head_of", defArgs (tp 25), defBody (tp 25), defScope (tp 25), [], []⟩, ⟨("pack", none), "pack", "pack", defArgs (tp 26), defBody (tp 26), defScope (tp 26), [], []⟩, ⟨("read_bare", none), "read_bare", "read_bare", defArgs (tp 27), defBody (tp 27), defScope (tp 27), [], []⟩, ⟨("unpack", none), "unpack", "unpack", defArgs (tp 28), defBody (tp 28), defScope (tp 28), [], []⟩, ⟨("_law_box", none), "_law_box", "_law_box", defArgs (tp 30), defBody (tp 30), defScope (tp 30), [], []⟩, ⟨("_law_load", none), "_law_load", "_law_load", defArgs (tp 31), defBody (tp 31), defScope (tp 31), [], []⟩, ⟨("_law_draw", none), "_law_draw", "_law_draw", defArgs (tp 32), defBody (tp 32), defScope (tp 32), [], []⟩, ⟨("_law_same", none), "_law_same", "_law_same", defArgs (tp 33), defBody (tp 33), defScope (tp 33), [], []⟩, ⟨("_law_number", none), "_law_number", "_law_number", defArgs (tp 34), defBody (tp 34), defScope (tp 34), [], []⟩, ⟨("_law_head", none), "_law_head", "_law_head", defArgs (tp 35), defBody (tp 35), defScope (tp 35), [], []⟩, ⟨("_law_pack", none), "_law_pack", "_law_pack", defArgs (tp 36), defBody (tp 36), defScope (tp 36), [], []⟩, ⟨("_law_value", none), "_law_value", "_law_value", defArgs (tp 37), defBody (tp 37), defScope (tp 37), [], []⟩, ⟨("_law_good", none), "_law_good", "_law_good", defArgs (tp 38), defBody (tp 38), defScope (tp 38), [], []⟩, ⟨("_law_told", none), "_law_told", "_law_told", defArgs (tp 39), defBody (tp 39), defScope (tp 39), [], []⟩, ⟨("_law_numbers", none), "_law_numbers", "_law_numbers", defArgs (tp 40), defBody (tp 40), defScope (tp 40), [], []⟩, ⟨("law", none), "law", "law", defArgs (tp 41), defBody (tp 41), defScope (tp 41), [], []⟩]
def hdIn : List InD := [⟨"BadBytes", "place", "BadBytes.__init__", defArgs (mt 2 0), bbOf (defBody (mt 2 0)), defScope (mt 2 0)⟩]
def hdTu : List (Str × List He.Dv) := [("BARE_ONES", [.non, .bl false, .bl true])]
def hd : HdX := ⟨4, PySem.Challenge.pw_postingstold_k18_whole_numbers_and_value.main.file, hdFa, hdFn, hdIn, hdTu⟩
def loose0 : List Str := ["GROUP", "SIGNS", "KINDS", "ABOVE", "BELOW", "TEXT", "TUPLE", "BARE_KIND", "BARE_ONES", "FindError", "BadBytes", "byte_at", "number_bytes", "read_number", "numbers_bytes", "read_numbers", "gaps_of", "numbers_of", "gap_bytes", "read_gaps", "sign_bytes", "read_signs", "head_of", "pack", "read_bare", "unpack", "_law_box", "_law_load", "_law_draw", "_law_same"]
def loose1 : List Str := ["_law_number", "_law_head", "_law_pack", "_law_value", "_law_good", "_law_told", "_law_numbers"]
def loose : List Str := loose0 ++ loose1
abbrev R : PySem.W.OpenRow := PySem.W.OpenLaw.row PySem.Challenge.rw_postingstold_k18_whole_numbers_and_value
theorem run (w : World) : HandSHeadRun.RunEq R (PySem.W.view R.prog [41]) hd.hook hd.ob 4000 loose w := by
  intro os
  kernel_rfl
theorem facts {K : PySem.W.Frag} {h : Heap} {mg : Str → Option Value} (X : K.In h) (G : h.Ns mainGlobals mg) (c : hd.says K) : Fx PySem.Challenge.pw_postingstold_k18_whole_numbers_and_value K mg where
  g_len := c.free X G 0
  x_BadBytes := c.exc rfl X G 0 bbs_BadBytes
  d_byte_at := c.def_ X G 0 1
  v_GROUP := c.gint X G 2
  d_number_bytes := c.def_ X G 1 3
  d_read_number := c.def_ X G 2 4
  d_numbers_bytes := c.def_ X G 3 5
  d_read_numbers := c.def_ X G 4 6
  d_gaps_of := c.def_ X G 5 7
  d_numbers_of := c.def_ X G 6 8
  d_gap_bytes := c.def_ X G 7 9
  d_read_gaps := c.def_ X G 8 10
  v_SIGNS := c.gstr X G 11
  d_sign_bytes := c.def_ X G 9 12
  g_min := c.free X G 13
  g_range := c.free X G 14
  d_read_signs := c.def_ X G 10 15
  v_KINDS := c.gint X G 16
  g_isinstance := c.free X G 17
  g_str := c.free X G 18
  v_TEXT := c.gint X G 19
  v_TUPLE := c.gint X G 20
  g_int := c.free X G 21
  v_ABOVE := c.gint X G 22
  v_BELOW := c.gint X G 23
  g_bool := c.free X G 24
  v_BARE_KIND := c.gint X G 25
  d_head_of := c.def_ X G 11 26
  g_tuple := c.free X G 27
  d_pack := c.def_ X G 12 28
  v_BARE_ONES := c.gtup X G 0
  d_read_bare := c.def_ X G 13 29
  d_unpack := c.def_ X G 14 30
  g_list := c.free X G 31
  d__law_box := c.def_ X G 15 32
  d__law_load := c.def_ X G 16 33
  d__law_draw := c.def_ X G 17 34
  g_all := c.free X G 35
  d__law_same := c.def_ X G 18 36
  d__law_number := c.def_ X G 19 37
  d__law_head := c.def_ X G 20 38
  d__law_pack := c.def_ X G 21 39
  d__law_value := c.def_ X G 22 40
  d__law_good := c.def_ X G 23 41
  d__law_told := c.def_ X G 24 42
  d__law_numbers := c.def_ X G 25 43
  d_law := c.def_ X G 26 44
end K18
open PySem PySem.W PySem.Calls PyProof.Rows MI in
theorem PySem.Challenge.cw_postingstold_k18_whole_numbers_and_value_holds : PySem.Challenge.rw_postingstold_k18_whole_numbers_and_value.Holds := by
  w_on; o_law
  refine HandSHeadRun.head_any (r := K18.R) (q := view K18.R.prog [41]) (H := K18.hd.hook) (ob := K18.hd.ob) (M := 4000) (loose := K18.loose) (d := HandSHeadRun.topDef K18.R.prog 41) (kwd := []) K18.hd.ob_eq
    (by kernel_rfl) (fun s => by kernel_rfl) K18.run (by kernel_rfl) (by kernel_rfl) (by kernel_rfl) (by rfl) (by first | assumption | decide +kernel) (by decide +kernel) ⟨rfl, rfl, rfl, rfl, rfl, by decide +kernel⟩ ?hw ?hc
  case hw => w_witness2
  case hc =>
    refine L2.walk_ofE (l := PySem.Challenge.rw_postingstold_k18_whole_numbers_and_value) (n := 63) (k := 82) (x := "script") (CX := CXw PySem.Challenge.pw_postingstold_k18_whole_numbers_and_value) rfl (by decide) (by kernel_rfl) ⟨rfl, by decide, by decide⟩ ?F law_out
    intro w mg fa h Y G hmg0
    obtain ⟨K, KX, c⟩ := Y
    have hmg : mg ("law" : PySem.Str) = some (.ref fa) := by
      have e : (HandSHeadRun.topDef K18.R.prog 41).name = ("law" : PySem.Str) := by kernel_rfl
      rw [← e]
      exact hmg0
    exact law_end KX hmg (fun base => K18.F_law (K18.facts KX G c)) K18.plain
