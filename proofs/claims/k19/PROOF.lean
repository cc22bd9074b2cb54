import PyProof.Rows.All
import Wide.All
import OpenK.AllK
import Wide.FinOn
import HandS.ForMost
import HandS.ForExc
import HandS.Head0
import HandS.Head1
import HandS.Head2
import HandS.HeadEnd
import HandS.HeadHook1
import HandS.HeadHook2
import HandS.TupAny
import HandS.Wide
import HandS.TupLe
import HandS.Deep
import PyProof.NeData
import HandS.Defaults
import HandS.ExcOwn
import HandS.Style
import HandS.IsInst
import HandS.Flt
import HandS.More
import HandS.Replace
import HandS.TupMul
import HandS.Small
import PyProof.StrOps2
import HandS.ExcInit
import HandS.ExcField
import KE.KExcSuper
import PySem.Challenge.RW_postingstold_k19_whole_seals
set_option Elab.async false
set_option linter.all false
set_option maxRecDepth 100000
set_option maxHeartbeats 4000000
/-! # The mirror layer: data trees over the hand layer's heap -/
namespace MI
open PySem L2

/-- data: what a value is, lists and dicts in it never change any more; ref: an object of the shared store; scr: the law's own script -/
inductive D where
  | non | bl (b : Bool) | int (i : Int) | str (x : Str)
  | tup (xs : List D) | lst (xs : List D) | dic (kvs : List (Key × D)) | ref (n : Nat) | scr (xs : List D)
  deriving Inhabited

/-- an object that may change -/
inductive MObj where
  | lst (xs : List D) | dic (kvs : List (Key × D)) | ins (c : Str) (fs : List (Str × D))
  deriving Inhabited
inductive Slot where
  | none | val (x : D) | own (o : MObj)
  deriving Inhabited
structure S where
  env : List Slot
  gl : List MObj
inductive Loc where
  | sl (i : Nat) | gl (n : Nat)
  deriving DecidableEq
/-- a value of an expression: data; the object that a slot owns; a new object -/
inductive RV where
  | d (x : D) | at (i : Nat) | new (o : MObj)
inductive Res (α : Type) where
  | ok (a : α) (s : S) | exc (c : Str) (p : D) (s : S) | stuck
inductive Out where
  | nx | rt (x : D) | bk | ct

def cellOf (s : S) : Loc → Option MObj
  | .sl i => match s.env[i]? with
    | some (.own o) => some o
    | _ => none
  | .gl n => s.gl[n]?

/-- what stands unchanged for good; what is another one's; where the objects are, how many are shared -/
structure G where
  F : Hp
  P : Addr → Prop
  adr : Loc → Addr
  ng : Nat

mutual
inductive Rep (K : PySem.W.Frag) (g : G) : V → D → Prop
  | non : Rep K g .non .non
  | bl (b : Bool) : Rep K g (.bl b) (.bl b)
  | int (i : Int) : Rep K g (.int i) (.int i)
  | str (x : Str) : Rep K g (.str x) (.str x)
  | tup {a : Addr} {vs : List V} {ds : List D} : SqT K g.F a vs → RepL K g vs ds → Rep K g (.ref a) (.tup ds)
  | lst {a : Addr} {vs : List V} {ds : List D} : g.F a = some (.lst vs) → RepL K g vs ds → Rep K g (.ref a) (.lst ds)
  | dic {a : Addr} {kvs : List (Key × V)} {ds : List (Key × D)} : g.F a = some (.dK kvs) → RepK K g kvs ds → Rep K g (.ref a) (.dic ds)
  | ref (n : Nat) : n < g.ng → Rep K g (.ref (g.adr (.gl n))) (.ref n)
  | scr {a : Addr} {vs : List V} {ds : List D} : SqL K g.F a vs → RepL K g vs ds → Rep K g (.ref a) (.scr ds)
inductive RepL (K : PySem.W.Frag) (g : G) : List V → List D → Prop
  | nil : RepL K g [] []
  | cons {v : V} {vs : List V} {d : D} {ds : List D} : Rep K g v d → RepL K g vs ds → RepL K g (v :: vs) (d :: ds)
inductive RepK (K : PySem.W.Frag) (g : G) : List (Key × V) → List (Key × D) → Prop
  | nil : RepK K g [] []
  | cons {k : Key} {v : V} {vs : List (Key × V)} {d : D} {ds : List (Key × D)} : Rep K g v d → RepK K g vs ds → RepK K g ((k, v) :: vs) ((k, d) :: ds)
end
inductive RepF (K : PySem.W.Frag) (g : G) : List (Str × V) → List (Str × D) → Prop
  | nil : RepF K g [] []
  | cons {k : Str} {v : V} {vs : List (Str × V)} {d : D} {ds : List (Str × D)} : Rep K g v d → RepF K g vs ds → RepF K g ((k, v) :: vs) ((k, d) :: ds)

def Sub (F H : Hp) : Prop := ∀ a o, F a = some o → H a = some o
theorem Sub.refl (F : Hp) : Sub F F := fun _ _ e => e
theorem Sub.trans {F G H : Hp} (a : Sub F G) (b : Sub G H) : Sub F H := fun x o e => b x o (a x o e)
/-- the later ghost -/
structure GLe (g g' : G) : Prop where
  F : Sub g.F g'.F
  ng : g.ng ≤ g'.ng
  adr : ∀ n, n < g.ng → g'.adr (.gl n) = g.adr (.gl n)
theorem GLe.refl (g : G) : GLe g g := ⟨Sub.refl _, Nat.le_refl _, fun _ _ => rfl⟩
theorem GLe.trans {a b c : G} (x : GLe a b) (y : GLe b c) : GLe a c :=
  ⟨x.F.trans y.F, Nat.le_trans x.ng y.ng, fun n h => (y.adr n (Nat.lt_of_lt_of_le h x.ng)).trans (x.adr n h)⟩

theorem rd_mono {F H : Hp} (s : Sub F H) {a : Addr} {u : HO} (r : Rd F a u) : Rd H a u := by
  rcases r with r | ⟨o, r⟩
  · exact .inl (s _ _ r)
  · exact .inr ⟨o, s _ _ r⟩
theorem sqT_mono {K : PySem.W.Frag} {F H : Hp} (s : Sub F H) {a : Addr} {xs : List V} (r : SqT K F a xs) : SqT K H a xs := by
  rcases r with r | r
  · exact .inl (rd_mono s r)
  · exact .inr r
theorem sqL_mono {K : PySem.W.Frag} {F H : Hp} (s : Sub F H) {a : Addr} {xs : List V} (r : SqL K F a xs) : SqL K H a xs := by
  rcases r with r | r
  · exact .inl (rd_mono s r)
  · exact .inr r

section
variable {K : PySem.W.Frag} {g g' : G}
mutual
theorem Rep.mono (l : GLe g g') : ∀ {v : V} {d : D}, Rep K g v d → Rep K g' v d
  | _, _, .non => .non
  | _, _, .bl b => .bl b
  | _, _, .int i => .int i
  | _, _, .str x => .str x
  | _, _, .tup h r => .tup (sqT_mono l.F h) (RepL.mono l r)
  | _, _, .lst h r => .lst (l.F _ _ h) (RepL.mono l r)
  | _, _, .dic h r => .dic (l.F _ _ h) (RepK.mono l r)
  | _, _, .scr h r => .scr (sqL_mono l.F h) (RepL.mono l r)
  | _, _, .ref n h => by rw [← l.adr n h]; exact .ref n (Nat.lt_of_lt_of_le h l.ng)
theorem RepL.mono (l : GLe g g') : ∀ {v : List V} {d : List D}, RepL K g v d → RepL K g' v d
  | _, _, .nil => .nil
  | _, _, .cons a b => .cons (Rep.mono l a) (RepL.mono l b)
theorem RepK.mono (l : GLe g g') : ∀ {v : List (Key × V)} {d : List (Key × D)}, RepK K g v d → RepK K g' v d
  | _, _, .nil => .nil
  | _, _, .cons a b => .cons (Rep.mono l a) (RepK.mono l b)
end
theorem RepF.mono (l : GLe g g') : ∀ {v : List (Str × V)} {d : List (Str × D)}, RepF K g v d → RepF K g' v d
  | _, _, .nil => .nil
  | _, _, .cons a b => .cons (Rep.mono l a) (RepF.mono l b)

theorem RepL.length : ∀ {v : List V} {d : List D}, RepL K g v d → v.length = d.length
  | _, _, .nil => rfl
  | _, _, .cons _ b => by rw [List.length_cons, List.length_cons, RepL.length b]
theorem RepL.append : ∀ {v w : List V} {d e : List D}, RepL K g v d → RepL K g w e → RepL K g (v ++ w) (d ++ e)
  | _, _, _, _, .nil, h => h
  | _, _, _, _, .cons a b, h => .cons a (RepL.append b h)
theorem RepL.one {v : V} {d : D} (h : Rep K g v d) : RepL K g [v] [d] := .cons h .nil
theorem RepL.take : ∀ {v : List V} {d : List D} (n : Nat), RepL K g v d → RepL K g (v.take n) (d.take n)
  | _, _, 0, _ => .nil
  | _, _, _ + 1, .nil => .nil
  | _, _, n + 1, .cons a b => .cons a (RepL.take n b)
theorem RepL.drop : ∀ {v : List V} {d : List D} (n : Nat), RepL K g v d → RepL K g (v.drop n) (d.drop n)
  | _, _, 0, h => h
  | _, _, _ + 1, .nil => .nil
  | _, _, n + 1, .cons _ b => RepL.drop n b
theorem RepL.get : ∀ {v : List V} {d : List D} {i : Nat} {x : D}, RepL K g v d → d[i]? = some x → ∃ u, v[i]? = some u ∧ Rep K g u x
  | _, _, _, _, .nil, e => by simp at e
  | _, _, 0, _, .cons a b, e => by simp at e; subst e; exact ⟨_, rfl, a⟩
  | _, _, i + 1, x, .cons a b, e => by
    obtain ⟨u, h1, h2⟩ := RepL.get (i := i) (x := x) b (by simpa using e)
    exact ⟨u, by simpa using h1, h2⟩
theorem RepL.get' : ∀ {v : List V} {d : List D} {i : Nat} {u : V}, RepL K g v d → v[i]? = some u → ∃ x, d[i]? = some x ∧ Rep K g u x
  | _, _, _, _, .nil, e => by simp at e
  | _, _, 0, _, .cons a b, e => by simp at e; subst e; exact ⟨_, rfl, a⟩
  | _, _, i + 1, x, .cons a b, e => by
    obtain ⟨u, h1, h2⟩ := RepL.get' (i := i) (u := x) b (by simpa using e)
    exact ⟨u, by simpa using h1, h2⟩
theorem RepL.set {x : D} {u : V} (h : Rep K g u x) : ∀ {v : List V} {d : List D} (i : Nat), RepL K g v d → RepL K g (v.set i u) (d.set i x)
  | _, _, _, .nil => .nil
  | _, _, 0, .cons _ b => .cons h b
  | _, _, i + 1, .cons a b => .cons a (RepL.set h i b)
theorem RepL.reverse {v : List V} {d : List D} (h : RepL K g v d) : RepL K g v.reverse d.reverse := by
  induction v generalizing d with
  | nil => cases h; exact .nil
  | cons a v ih =>
    cases h with
    | cons x y =>
      rw [List.reverse_cons, List.reverse_cons]
      exact (ih y).append (.one x)
theorem RepL.eraseIdx : ∀ {v : List V} {d : List D} (i : Nat), RepL K g v d → RepL K g (v.eraseIdx i) (d.eraseIdx i)
  | _, _, _, .nil => .nil
  | _, _, 0, .cons _ b => b
  | _, _, i + 1, .cons a b => .cons a (RepL.eraseIdx i b)
end

/-- an object of the store at an address -/
def ObjRep (K : PySem.W.Frag) (g : G) (H : Hp) (a : Addr) : MObj → Prop
  | .lst xs => ∃ vs, H a = some (.lst vs) ∧ RepL K g vs xs
  | .dic kvs => ∃ vs, H a = some (.dK vs) ∧ RepK K g vs kvs
  | .ins c fs => ∃ dx vs, H a = some (.ins (He.ga K c) dx vs) ∧ RepF K g vs fs
theorem ObjRep.some {K : PySem.W.Frag} {g : G} {H : Hp} {a : Addr} {o : MObj} (h : ObjRep K g H a o) : ∃ u, H a = Option.some u := by
  cases o with
  | lst xs => obtain ⟨vs, e, _⟩ := h; exact ⟨_, e⟩
  | dic xs => obtain ⟨vs, e, _⟩ := h; exact ⟨_, e⟩
  | ins c fs => obtain ⟨dx, vs, e, _⟩ := h; exact ⟨_, e⟩
theorem ObjRep.mono {K : PySem.W.Frag} {g g' : G} {H H' : Hp} {a : Addr} {o : MObj} (l : GLe g g') (e : H' a = H a) (h : ObjRep K g H a o) : ObjRep K g' H' a o := by
  cases o with
  | lst xs => obtain ⟨vs, q, r⟩ := h; exact ⟨vs, e.trans q, r.mono l⟩
  | dic xs => obtain ⟨vs, q, r⟩ := h; exact ⟨vs, e.trans q, r.mono l⟩
  | ins c fs => obtain ⟨dx, vs, q, r⟩ := h; exact ⟨dx, vs, e.trans q, r.mono l⟩

def SlotRep (K : PySem.W.Frag) (g : G) (σ : St) (i : Nat) : Slot → Prop
  | .none => True
  | .val d => ∃ v, σ[i]? = some (some v) ∧ Rep K g v d
  | .own _ => σ[i]? = some (some (.ref (g.adr (.sl i))))

def Live (g : G) (s : S) (a : Addr) : Prop := ∃ l o, cellOf s l = some o ∧ g.adr l = a
/-- the state s is what the slots and the heap are -/
structure Ok (K : PySem.W.Frag) (g : G) (s : S) (σ : St) (H : Hp) : Prop where
  sub : Sub g.F H
  cell : ∀ l o, cellOf s l = some o → g.F (g.adr l) = none ∧ ObjRep K g H (g.adr l) o
  inj : ∀ l l' o o', cellOf s l = some o → cellOf s l' = some o' → g.adr l = g.adr l' → l = l'
  env : ∀ i x, s.env[i]? = some x → SlotRep K g σ i x
  len : s.env.length = σ.length
  ng : g.ng = s.gl.length
  prot : ∀ a, g.P a → (∃ u, H a = some u) ∧ g.F a = none ∧ ¬ Live g s a

/-- from (g, H) to (g', H') -/
structure Step (g : G) (H : Hp) (g' : G) (H' : Hp) : Prop where
  le : GLe g g'
  P : g'.P = g.P
  keep : ∀ a, g.P a → H' a = H a
theorem Step.refl (g : G) (H : Hp) : Step g H g H := ⟨GLe.refl _, rfl, fun _ _ => rfl⟩
theorem Step.trans {g g' g'' : G} {H H' H'' : Hp} (a : Step g H g' H') (b : Step g' H' g'' H'') : Step g H g'' H'' :=
  ⟨a.le.trans b.le, b.P.trans a.P, fun x p => (b.keep x (by rw [a.P]; exact p)).trans (a.keep x p)⟩

def RepRV (K : PySem.W.Frag) (g : G) (s : S) (H : Hp) (v : V) : RV → Prop
  | .d x => Rep K g v x
  | .at i => v = .ref (g.adr (.sl i))
  | .new o => ∃ a, v = .ref a ∧ g.F a = none ∧ ¬ g.P a ∧ ¬ Live g s a ∧ ObjRep K g H a o
/-- slots' objects stay at their places -/
def SlKeep (g g' : G) : Prop := ∀ i, g'.adr (.sl i) = g.adr (.sl i)
theorem SlKeep.refl (g : G) : SlKeep g g := fun _ => rfl
theorem SlKeep.trans {a b c : G} (x : SlKeep a b) (y : SlKeep b c) : SlKeep a c := fun i => (y i).trans (x i)

/-! ### what follows a part -/
abbrev M := S → Res RV
/-- an exception: the class by name, its one field (as a pair of its name and its value), or none -/
def ExcRep (K : PySem.W.Frag) (g : G) (H : Hp) (cls : Value) (d : Option Addr) (c : Str) (p : D) : Prop :=
  cls = .ref (He.ga K c) ∧ ((d = none ∧ p = .non) ∨ ∃ dx f v q, d = some dx ∧ H dx = some (.xd [(f, v)]) ∧ p = .tup [.str f, q] ∧ Rep K g v q)
theorem ExcRep.mono {K : PySem.W.Frag} {g g' : G} {H : Hp} {cls : Value} {d : Option Addr} {c : Str} {p : D} (l : GLe g g') (h : ExcRep K g H cls d c p) : ExcRep K g' H cls d c p := by
  obtain ⟨h1, h2 | ⟨dx, f, v, q, e1, e2, e3, r⟩⟩ := h
  · exact ⟨h1, .inl h2⟩
  · exact ⟨h1, .inr ⟨dx, f, v, q, e1, e2, e3, r.mono l⟩⟩
def PostE (K : PySem.W.Frag) (W : WX) (σ : St) (g : G) (s : S) (H : Hp) {α : Type} (k : α → G → S → Hp → Prop) : Res α → Prop
  | .ok a s' => ∀ g' H', Step g H g' H' → SlKeep g g' → Ok K g' s' σ H' → k a g' s' H'
  | .exc c p s' => ∀ cls d g' H', Step g H g' H' → SlKeep g g' → Ok K g' s' σ H' → ExcRep K g' H' cls d c p → W cls d σ H'
  | .stuck => False
abbrev kE (K : PySem.W.Frag) (Q : VK) : RV → G → S → Hp → Prop := fun r g s H => ∀ v, RepRV K g s H v r → Q v H
abbrev kL (K : PySem.W.Frag) (Q : List V → Hp → Prop) : List D → G → S → Hp → Prop := fun r g _ H => ∀ v, RepL K g v r → Q v H
abbrev kB (Q : Bool → Hp → Prop) : Bool → G → S → Hp → Prop := fun r _ _ H => Q r H
/-- mirrors as readings: an expression, an argument list, a test -/
def tM (K : PySem.W.Frag) (W : WX) (m : M) : TE := fun σ H Q => ∃ g s, Ok K g s σ H ∧ PostE K W σ g s H (kE K Q) (m s)
def tMA (K : PySem.W.Frag) (W : WX) (m : S → Res (List D)) : TA := fun σ H Q => ∃ g s, Ok K g s σ H ∧ PostE K W σ g s H (kL K Q) (m s)
def tMT (K : PySem.W.Frag) (W : WX) (m : S → Res Bool) : TT := fun σ H Q => ∃ g s, Ok K g s σ H ∧ PostE K W σ g s H (kB Q) (m s)
def ME (X : Cx) (W : WX) (e : Expr) (m : M) : Prop := PE X e (tM X.K W m)
def MA (X : Cx) (W : WX) (es : List Expr) (m : S → Res (List D)) : Prop := PA X es (tMA X.K W m)
def MT (X : Cx) (W : WX) (e : Expr) (m : S → Res Bool) : Prop := PT X e (tMT X.K W m)

def PostS (K : PySem.W.Frag) (W : WX) (g : G) (s : S) (H : Hp) (D : Ends) : Res Out → Prop
  | .ok .nx s' => ∀ σ' g' H', Step g H g' H' → Ok K g' s' σ' H' → D.nx σ' H'
  | .ok .bk s' => ∀ σ' g' H', Step g H g' H' → Ok K g' s' σ' H' → D.bk σ' H'
  | .ok .ct s' => ∀ σ' g' H', Step g H g' H' → Ok K g' s' σ' H' → D.ct σ' H'
  | .ok (.rt d) s' => ∀ v σ' g' H', Step g H g' H' → Ok K g' s' σ' H' → Rep K g' v d → D.rt v H'
  | .exc c p s' => ∀ σ' cls d g' H', Step g H g' H' → Ok K g' s' σ' H' → ExcRep K g' H' cls d c p → W cls d σ' H'
  | .stuck => False
def tMS (K : PySem.W.Frag) (W : WX) (m : S → Res Out) : TS := fun D σ H => ∃ g s, Ok K g s σ H ∧ PostS K W g s H D (m s)
def MS (X : Cx) (W : WX) (st : Stmt) (m : S → Res Out) : Prop := PS X st (tMS X.K W m)
def MSs (X : Cx) (W : WX) (st : List Stmt) (m : S → Res Out) : Prop := PSs X st (tMS X.K W m)

theorem pe_imp {X : Cx} {e : Expr} {t t' : TE} (h : PE X e t) (i : ∀ σ H Q, t' σ H Q → t σ H Q) : PE X e t' :=
  ⟨fun pins s σ H Q I q => h.run pins s σ H Q I (i σ H Q q)⟩
theorem pt_imp {X : Cx} {e : Expr} {t t' : TT} (h : PT X e t) (i : ∀ σ H Q, t' σ H Q → t σ H Q) : PT X e t' :=
  ⟨fun pins s σ H Q I q => h.run pins s σ H Q I (i σ H Q q)⟩
theorem pa_imp {X : Cx} {e : List Expr} {t t' : TA} (h : PA X e t) (i : ∀ σ H Q, t' σ H Q → t σ H Q) : PA X e t' :=
  ⟨fun pos pins s σ H Q I q => h.run pos pins s σ H Q I (i σ H Q q)⟩
theorem ps_imp {X : Cx} {e : Stmt} {t t' : TS} (h : PS X e t) (i : ∀ D σ H, t' D σ H → t D σ H) : PS X e t' :=
  ⟨fun pins s σ H D I q => h.run pins s σ H D I (i D σ H q)⟩
theorem pss_imp {X : Cx} {e : List Stmt} {t t' : TS} (h : PSs X e t) (i : ∀ D σ H, t' D σ H → t D σ H) : PSs X e t' :=
  ⟨fun pins s σ H D I q => h.run pins s σ H D I (i D σ H q)⟩

def Res.bind {α β : Type} (r : Res α) (f : α → S → Res β) : Res β := match r with
  | .ok a s => f a s
  | .exc c p s => .exc c p s
  | .stuck => .stuck
@[simp] theorem Res.bind_ok {α β : Type} (a : α) (s : S) (f : α → S → Res β) : (Res.ok a s).bind f = f a s := rfl
@[simp] theorem Res.bind_exc {α β : Type} (c : Str) (p : D) (s : S) (f : α → S → Res β) : (Res.exc c p s).bind f = .exc c p s := rfl
@[simp] theorem Res.bind_stuck {α β : Type} (f : α → S → Res β) : (Res.stuck : Res α).bind f = .stuck := rfl

section
variable {K : PySem.W.Frag} {W : WX} {σ : St} {g : G} {s : S} {H : Hp} {α β : Type} {k : α → G → S → Hp → Prop} {D : Ends}
theorem PostE.mono {k' : α → G → S → Hp → Prop} {r : Res α} (h : PostE K W σ g s H k r)
    (i : ∀ a g' s' H', Step g H g' H' → SlKeep g g' → Ok K g' s' σ H' → k a g' s' H' → k' a g' s' H') : PostE K W σ g s H k' r := by
  cases r with
  | ok a s' => exact fun g' H' t sk o => i _ _ _ _ t sk o (h g' H' t sk o)
  | exc c p s' => exact h
  | stuck => exact h
theorem PostE.bind {r : Res β} {f : β → S → Res α} (h : PostE K W σ g s H k (r.bind f)) :
    PostE K W σ g s H (fun b g' s' H' => PostE K W σ g' s' H' k (f b s')) r := by
  cases r with
  | ok b s' =>
    intro g' H' t sk o
    have h' : PostE K W σ g s H k (f b s') := h
    show PostE K W σ g' s' H' k (f b s')
    cases e : f b s' with
    | ok a s'' => rw [e] at h'; exact fun g'' H'' t' sk' o' => h' g'' H'' (t.trans t') (sk.trans sk') o'
    | exc c p s'' => rw [e] at h'; exact fun cls d g'' H'' t' sk' o' x => h' cls d g'' H'' (t.trans t') (sk.trans sk') o' x
    | stuck => rw [e] at h'; exact h'
  | exc c p s' => exact h
  | stuck => exact h
/-- a part that only turns the ghost -/
theorem PostE.ghost {r : Res α} {g' : G} {s' : S} (h : PostE K W σ g s H k r) (t : Step g H g' H) (sk : SlKeep g g') : PostE K W σ g' s' H k r := by
  cases r with
  | ok a s'' => exact fun g'' H'' t' sk' o' => h g'' H'' (t.trans t') (sk.trans sk') o'
  | exc c p s'' => exact fun cls d g'' H'' t' sk' o' x => h cls d g'' H'' (t.trans t') (sk.trans sk') o' x
  | stuck => exact h
theorem PostE.after {r : Res α} {g' : G} {s' : S} {H' : Hp} (h : PostE K W σ g s H k r) (t : Step g H g' H') (sk : SlKeep g g') : PostE K W σ g' s' H' k r := by
  cases r with
  | ok a s'' => exact fun g'' H'' t' sk' o' => h g'' H'' (t.trans t') (sk.trans sk') o'
  | exc c p s'' => exact fun cls d g'' H'' t' sk' o' x => h cls d g'' H'' (t.trans t') (sk.trans sk') o' x
  | stuck => exact h
theorem PostE.done {a : α} (h : PostE K W σ g s H k (.ok a s)) (o : Ok K g s σ H) : k a g s H := h g H (Step.refl _ _) (SlKeep.refl _) o
theorem PostS.bind {r : Res β} {f : β → S → Res Out} (h : PostS K W g s H D (r.bind f)) :
    PostE K W σ g s H (fun b g' s' H' => PostS K W g' s' H' D (f b s')) r := by
  cases r with
  | ok b s' =>
    intro g' H' t sk o
    have h' : PostS K W g s H D (f b s') := h
    show PostS K W g' s' H' D (f b s')
    cases e : f b s' with
    | ok a s'' =>
      rw [e] at h'
      cases a with
      | nx => exact fun σ'' g'' H'' t' o' => h' σ'' g'' H'' (t.trans t') o'
      | bk => exact fun σ'' g'' H'' t' o' => h' σ'' g'' H'' (t.trans t') o'
      | ct => exact fun σ'' g'' H'' t' o' => h' σ'' g'' H'' (t.trans t') o'
      | rt d => exact fun v σ'' g'' H'' t' o' x => h' v σ'' g'' H'' (t.trans t') o' x
    | exc c p s'' => rw [e] at h'; exact fun σ'' cls d g'' H'' t' o' x => h' σ'' cls d g'' H'' (t.trans t') o' x
    | stuck => rw [e] at h'; exact h'
  | exc c p s' => exact fun cls d g' H' t sk o x => h σ cls d g' H' t o x
  | stuck => exact h
theorem PostS.after {r : Res Out} {g' : G} {s' : S} {H' : Hp} (h : PostS K W g s H D r) (t : Step g H g' H') : PostS K W g' s' H' D r := by
  cases r with
  | ok a s'' =>
    cases a with
    | nx => exact fun σ'' g'' H'' t' o' => h σ'' g'' H'' (t.trans t') o'
    | bk => exact fun σ'' g'' H'' t' o' => h σ'' g'' H'' (t.trans t') o'
    | ct => exact fun σ'' g'' H'' t' o' => h σ'' g'' H'' (t.trans t') o'
    | rt d => exact fun v σ'' g'' H'' t' o' x => h v σ'' g'' H'' (t.trans t') o' x
  | exc c p s'' => exact fun σ'' cls d g'' H'' t' o' x => h σ'' cls d g'' H'' (t.trans t') o' x
  | stuck => exact h
end

/-! ### the ghost's own steps -/
section
variable {K : PySem.W.Frag} {σ : St} {g : G} {s : S} {H : Hp}
theorem Ok.live {a : Addr} (ok : Ok K g s σ H) (l : Live g s a) : ∃ u, H a = some u := by
  obtain ⟨l, o, e, rfl⟩ := l
  exact (ok.cell l o e).2.some
theorem Ok.fnone {a : Addr} (ok : Ok K g s σ H) (n : H a = none) : g.F a = none := by
  cases e : g.F a with
  | none => rfl
  | some u => rw [ok.sub _ _ e] at n; cases n
theorem Ok.pnone {a : Addr} (ok : Ok K g s σ H) (n : H a = none) : ¬ g.P a := fun p => by
  obtain ⟨⟨u, e⟩, _⟩ := ok.prot a p
  rw [n] at e; cases e
theorem Ok.lnone {a : Addr} (ok : Ok K g s σ H) (n : H a = none) : ¬ Live g s a := fun p => by
  obtain ⟨u, e⟩ := ok.live p
  rw [n] at e; cases e
/-- a new tracked object, not in the store -/
theorem Ok.grow {a : Addr} {o : HO} (ok : Ok K g s σ H) (n : H a = none) : Ok K g s σ (upd H a o) := by
  have ne : ∀ b u, H b = some u → b ≠ a := fun b u e z => by rw [z, n] at e; cases e
  refine ⟨fun b u e => by rw [upd_ne (ne b u (ok.sub b u e))]; exact ok.sub b u e, fun l u e => ?_, ok.inj, ok.env, ok.len, ok.ng, fun b p => ?_⟩
  · obtain ⟨f, r⟩ := ok.cell l u e
    obtain ⟨w, hw⟩ := r.some
    exact ⟨f, r.mono (GLe.refl _) (upd_ne (ne _ _ hw))⟩
  · obtain ⟨⟨u, e⟩, f, l⟩ := ok.prot b p
    exact ⟨⟨u, by rw [upd_ne (ne _ _ e)]; exact e⟩, f, l⟩
theorem Step.grow {a : Addr} {o : HO} (ok : Ok K g s σ H) (n : H a = none) : Step g H g (upd H a o) := by
  refine ⟨GLe.refl _, rfl, fun b p => upd_ne fun z => ?_⟩
  obtain ⟨⟨u, e⟩, _⟩ := ok.prot b p
  rw [z, n] at e; cases e
/-- a tracked object that is not in the store comes to stand for good -/
def G.frz (g : G) (a : Addr) (o : HO) : G := { g with F := upd g.F a o }
theorem frz_le {a : Addr} {o : HO} (n : g.F a = none) : GLe g (g.frz a o) := by
  refine ⟨fun b u e => ?_, Nat.le_refl _, fun _ _ => rfl⟩
  show upd g.F a o b = _
  rw [upd_ne (fun z => by rw [z, n] at e; cases e)]
  exact e
theorem SlotRep.mono {g' : G} {i : Nat} {x : Slot} (l : GLe g g') (k : SlKeep g g') (h : SlotRep K g σ i x) : SlotRep K g' σ i x := by
  cases x with
  | none => trivial
  | val d =>
    obtain ⟨v, e, r⟩ := h
    exact ⟨v, e, r.mono l⟩
  | own o =>
    show σ[i]? = _
    rw [k i]; exact h
theorem Ok.frz {a : Addr} {o : HO} (ok : Ok K g s σ H) (h : H a = some o) (n : g.F a = none) (np : ¬ g.P a) (nl : ¬ Live g s a) : Ok K (g.frz a o) s σ H := by
  have f0 : ∀ b, b ≠ a → (g.frz a o).F b = g.F b := fun b z => upd_ne z
  refine ⟨fun b u e => ?_, fun l u e => ?_, ok.inj, fun i x e => (ok.env i x e).mono (frz_le n) (SlKeep.refl _), ok.len, ok.ng, fun b p => ?_⟩
  · by_cases z : b = a
    · subst z
      have e' : upd g.F b o b = some u := e
      rw [upd_same] at e'
      rw [h]; exact e'
    · rw [f0 b z] at e
      exact ok.sub b u e
  · obtain ⟨f, r⟩ := ok.cell l u e
    exact ⟨(f0 _ fun z => nl ⟨l, u, e, z⟩).trans f, r.mono (frz_le n) rfl⟩
  · obtain ⟨e, f, l⟩ := ok.prot b p
    exact ⟨e, (f0 b fun z => np (z ▸ p)).trans f, l⟩
theorem Step.frz {a : Addr} {o : HO} (n : g.F a = none) : Step g H (g.frz a o) H := ⟨frz_le n, rfl, fun _ _ => rfl⟩
end
end MI
/-! # Expressions -/
namespace MI
open PySem L2

section
variable {K : PySem.W.Frag} {W : WX} {σ : St} {g : G} {s : S} {H : Hp}
/-- the end of an operation that makes nothing new -/
theorem kE_d {Q : VK} {x : D} {v : V} (h : PostE K W σ g s H (kE K Q) (.ok (.d x) s)) (o : Ok K g s σ H) (r : Rep K g v x) : Q v H := (PostE.done h o) v r
/-- .. that makes a new tracked object -/
theorem kE_new {Q : VK} {o : MObj} {ho : HO} {p : Addr} (h : PostE K W σ g s H (kE K Q) (.ok (.new o) s)) (k : Ok K g s σ H) (n : H p = none)
    (r : ObjRep K g (upd H p ho) p o) : Q (.ref p) (upd H p ho) :=
  h g _ (Step.grow k n) (SlKeep.refl _) (k.grow n) _ ⟨p, rfl, k.fnone n, k.pnone n, k.lnone n, r⟩
/-- a new tuple stands for good at once -/
theorem kE_tup {Q : VK} {ds : List D} {vs : List V} {p : Addr} (h : PostE K W σ g s H (kE K Q) (.ok (.d (.tup ds)) s)) (k : Ok K g s σ H) (n : H p = none)
    (r : RepL K g vs ds) : Q (.ref p) (upd H p (.tup vs)) := by
  have k1 := k.grow (o := .tup vs) n
  have k2 := k1.frz (o := .tup vs) upd_same (k.fnone n) (k.pnone n) (k.lnone n)
  refine h (g.frz p (.tup vs)) _ ((Step.grow k n).trans (Step.frz (k.fnone n))) (SlKeep.refl _) k2 _ (.tup (.inl (.inl ?_)) (r.mono (frz_le (k.fnone n))))
  exact upd_same
end

/-- a new object that is held while other parts run stands for good -/
def frzO : MObj → Option D
  | .lst xs => some (.lst xs)
  | .dic kvs => some (.dic kvs)
  | .ins _ _ => none
def settle : RV → Option RV
  | .new o => (frzO o).map .d
  | r => some r
/-- a value goes out of hand: a slot's object, a new one, stand for good from there on -/
def leak : RV → S → Option (D × S)
  | .d x, s => some (x, s)
  | .new o, s => (frzO o).map fun d => (d, s)
  | .at i, s => match s.env[i]? with
    | some (.own o) => (frzO o).map fun d => (d, { s with env := s.env.set i (.val d) })
    | _ => none

section
variable {K : PySem.W.Frag} {W : WX} {σ : St} {g : G} {s : S} {H : Hp}
theorem frzO_rep {g : G} {H : Hp} {a : Addr} {o : MObj} {d : D} (e : frzO o = some d) (r : ObjRep K g H a o) (n : g.F a = none) :
    ∃ u, H a = some u ∧ Rep K (g.frz a u) (.ref a) d := by
  cases o with
  | lst xs =>
    cases e
    obtain ⟨vs, h, r⟩ := r
    exact ⟨_, h, .lst upd_same (r.mono (frz_le n))⟩
  | dic xs =>
    cases e
    obtain ⟨vs, h, r⟩ := r
    exact ⟨_, h, .dic upd_same (r.mono (frz_le n))⟩
  | ins c fs => cases e
theorem settle_ok {v : V} {r r' : RV} (ok : Ok K g s σ H) (h : RepRV K g s H v r) (e : settle r = some r') :
    ∃ g', Step g H g' H ∧ SlKeep g g' ∧ Ok K g' s σ H ∧ RepRV K g' s H v r' := by
  cases r with
  | d x => cases e; exact ⟨g, Step.refl _ _, SlKeep.refl _, ok, h⟩
  | «at» i => cases e; exact ⟨g, Step.refl _ _, SlKeep.refl _, ok, h⟩
  | new o =>
    obtain ⟨a, rfl, n, np, nl, q⟩ := h
    cases e' : frzO o with
    | none => simp only [settle, e', Option.map_some, Option.map_none] at e; cases e
    | some d =>
      simp only [settle, e', Option.map_some, Option.map_none] at e; cases e
      obtain ⟨u, hu, r⟩ := frzO_rep e' q n
      exact ⟨g.frz a u, Step.frz n, SlKeep.refl _, ok.frz hu n np nl, r⟩
/-- a slot's object is given up: the slot holds data -/
theorem Ok.giveup {i : Nat} {o : MObj} {d : D} {u : HO} (ok : Ok K g s σ H) (e : s.env[i]? = some (.own o)) (hu : H (g.adr (.sl i)) = some u)
    (r : Rep K (g.frz (g.adr (.sl i)) u) (.ref (g.adr (.sl i))) d) : Ok K (g.frz (g.adr (.sl i)) u) { s with env := s.env.set i (.val d) } σ H := by
  have hi : i < s.env.length := (List.getElem?_eq_some_iff.mp e).1
  have ce : cellOf s (.sl i) = some o := by show (match s.env[i]? with | some (.own o) => some o | _ => none) = _; rw [e]
  obtain ⟨n, _⟩ := ok.cell _ _ ce
  have sub : ∀ l w, cellOf { s with env := s.env.set i (.val d) } l = some w → l ≠ .sl i ∧ cellOf s l = some w := by
    intro l w h
    cases l with
    | gl n => exact ⟨(fun z => nomatch z), h⟩
    | sl j =>
      by_cases z : j = i
      · subst z
        have h' : (match (s.env.set j (.val d))[j]? with | some (.own o) => some o | _ => none) = some w := h
        rw [List.getElem?_set_self hi] at h'
        cases h'
      · refine ⟨fun q => z (by cases q; rfl), ?_⟩
        have h' : (match (s.env.set i (.val d))[j]? with | some (.own o) => some o | _ => none) = some w := h
        rw [List.getElem?_set_ne (Ne.symm z)] at h'
        exact h'
  have ne : ∀ l w, cellOf s l = some w → l ≠ .sl i → g.adr l ≠ g.adr (.sl i) := fun l w h z q => z (ok.inj _ _ _ _ h ce q)
  refine ⟨fun b w q => ?_, fun l w q => ?_, fun l l' w w' q q' z => ok.inj l l' w w' (sub l w q).2 (sub l' w' q').2 z, fun j x q => ?_, by rw [List.length_set]; exact ok.len, ok.ng, fun b p => ?_⟩
  · have q' : upd g.F (g.adr (.sl i)) u b = some w := q
    by_cases z : b = g.adr (.sl i)
    · rw [z, upd_same] at q'
      rw [z, hu]; exact q'
    · rw [upd_ne z] at q'
      exact ok.sub b w q'
  · obtain ⟨h1, h2⟩ := sub l w q
    obtain ⟨f, r'⟩ := ok.cell l w h2
    refine ⟨?_, r'.mono (frz_le n) rfl⟩
    show upd g.F (g.adr (.sl i)) u (g.adr l) = none
    rw [upd_ne (ne l w h2 h1)]
    exact f
  · by_cases z : j = i
    · subst z
      rw [List.getElem?_set_self hi] at q
      cases q
      exact ⟨_, ok.env j _ e, r⟩
    · rw [List.getElem?_set_ne (Ne.symm z)] at q
      exact (ok.env j x q).mono (frz_le n) (SlKeep.refl _)
  · obtain ⟨e1, f, l⟩ := ok.prot b p
    refine ⟨e1, ?_, fun ⟨l', w, q, z⟩ => l ⟨l', w, (sub l' w q).2, z⟩⟩
    show upd g.F (g.adr (.sl i)) u b = none
    rw [upd_ne (fun z => l ⟨_, _, ce, z.symm⟩)]
    exact f
theorem leak_ok {v : V} {r : RV} {d : D} {s' : S} (ok : Ok K g s σ H) (h : RepRV K g s H v r) (e : leak r s = some (d, s')) :
    ∃ g', Step g H g' H ∧ SlKeep g g' ∧ Ok K g' s' σ H ∧ Rep K g' v d := by
  cases r with
  | d x => cases e; exact ⟨g, Step.refl _ _, SlKeep.refl _, ok, h⟩
  | new o =>
    obtain ⟨a, rfl, n, np, nl, q⟩ := h
    cases e' : frzO o with
    | none => simp only [leak, e', Option.map_some, Option.map_none] at e; cases e
    | some d' =>
      simp only [leak, e', Option.map_some, Option.map_none] at e; cases e
      obtain ⟨u, hu, r⟩ := frzO_rep e' q n
      exact ⟨g.frz a u, Step.frz n, SlKeep.refl _, ok.frz hu n np nl, r⟩
  | «at» i =>
    have hv : v = .ref (g.adr (.sl i)) := h
    subst hv
    unfold leak at e
    cases e1 : s.env[i]? with
    | none => simp only [e1] at e; cases e
    | some w =>
      cases w with
      | none => simp only [e1] at e; cases e
      | val x => simp only [e1] at e; cases e
      | own o =>
        simp only [e1] at e
        cases e' : frzO o with
        | none => simp only [e'] at e; cases e
        | some d' =>
          simp only [e'] at e; cases e
          have ce : cellOf s (.sl i) = some o := by show (match s.env[i]? with | some (.own o) => some o | _ => none) = _; rw [e1]
          obtain ⟨n, q⟩ := ok.cell _ _ ce
          obtain ⟨u, hu, r⟩ := frzO_rep e' q n
          exact ⟨_, Step.frz n, SlKeep.refl _, ok.giveup e1 hu r, r⟩
end

/-! ### names, constants -/
def mVar (i : Nat) : M := fun s => match s.env[i]? with
  | some (.val x) => .ok (.d x) s
  | some (.own _) => .ok (.at i) s
  | _ => .stuck
def mC (x : D) : M := fun s => .ok (.d x) s
def mLeak (m : M) : S → Res D := fun s => (m s).bind fun r s1 => match leak r s1 with
  | some (d, s2) => .ok d s2
  | none => .stuck
def mSettle (m : M) : M := fun s => (m s).bind fun r s1 => match settle r with
  | some r' => .ok r' s1
  | none => .stuck

section
variable {X : Cx} {W : WX}
theorem me_var {i : Nat} {x : Str} {pos : Pos} (hN : X.N[i]? = some x := by rfl) (hv : Vis X.env.scope x := by first | exact Or.inl rfl | exact Or.inr (Or.inl rfl) | exact Or.inr (Or.inr rfl)) (hd : (x == ("__debug__" : Str)) = false := by decide) (hcd : (x == ("__classdict__" : Str)) = false := by decide) :
    ME X W (.Name x pos) (mVar i) := by
  refine pe_imp (pe_var (i := i) hN hv hd hcd) fun σ H Q ⟨g, s, ok, h⟩ => ?_
  unfold mVar at h
  cases e : s.env[i]? with
  | none => simp only [e] at h; exact h.elim
  | some w =>
    cases w with
    | none => simp only [e] at h; exact h.elim
    | val x =>
      simp only [e] at h
      obtain ⟨v, ev, r⟩ := ok.env i _ e
      exact ⟨v, ev, kE_d h ok r⟩
    | own o =>
      simp only [e] at h
      exact ⟨_, ok.env i _ e, PostE.done h ok _ rfl⟩
theorem me_int {i : Int} {j pos} : ME X W (.Constant (.int i) j pos) (mC (.int i)) := pe_imp pe_int fun σ H Q ⟨g, s, ok, h⟩ => kE_d h ok (.int i)
theorem me_bl {b : Bool} {j pos} : ME X W (.Constant (.bool b) j pos) (mC (.bl b)) := pe_imp pe_bl fun σ H Q ⟨g, s, ok, h⟩ => kE_d h ok (.bl b)
theorem me_non {j pos} : ME X W (.Constant .none j pos) (mC .non) := pe_imp pe_non fun σ H Q ⟨g, s, ok, h⟩ => kE_d h ok .non
theorem me_str {x : Str} {j pos} : ME X W (.Constant (.str x) j pos) (mC (.str x)) := pe_imp pe_str fun σ H Q ⟨g, s, ok, h⟩ => kE_d h ok (.str x)
theorem me_glob {x : Str} {v : V} {u : Value} {d : D} {pos : Pos} (hg : Gl X x) (hm : X.mg x = some u) (r : RelV v u) (hr : ∀ g, Rep X.K g v d) (hd : (x == ("__debug__" : Str)) = false := by decide) : ME X W (.Name x pos) (mC d) :=
  pe_imp (pe_glob hg hm r hd) fun σ H Q ⟨g, s, ok, h⟩ => kE_d h ok (hr g)

/-! ### two operands -/
def mBin (f : S → RV → RV → Res RV) (a b : M) : M := fun s => (mSettle a s).bind fun x s1 => (b s1).bind fun y s2 => f s2 x y
def OpS (X : Cx) (W : WX) (r : R2) (f : S → RV → RV → Res RV) : Prop :=
  ∀ (σ : St) (g : G) (s : S) (H : Hp) (Q : VK) (x y : V) (ra rb : RV), Ok X.K g s σ H → RepRV X.K g s H x ra → RepRV X.K g s H y rb → (∀ o, ra ≠ .new o) →
    PostE X.K W σ g s H (kE X.K Q) (f s ra rb) → r x y H Q
theorem RepRV.held {K : PySem.W.Frag} {g g' : G} {s s' : S} {H H' : Hp} {v : V} {r : RV} (n : ∀ o, r ≠ .new o) (t : Step g H g' H') (k : SlKeep g g') (h : RepRV K g s H v r) : RepRV K g' s' H' v r := by
  cases r with
  | d x => exact Rep.mono t.le h
  | «at» i => show v = _; rw [k i]; exact h
  | new o => exact absurd rfl (n o)
theorem settle_no {r r' : RV} (e : settle r = some r') : ∀ o, r' ≠ .new o := by
  cases r with
  | d x => cases e; exact fun o z => by cases z
  | «at» i => cases e; exact fun o z => by cases z
  | new o =>
    cases e' : frzO o with
    | none => simp only [settle, e', Option.map_none] at e; cases e
    | some d => simp only [settle, e', Option.map_some] at e; cases e; exact fun o z => by cases z
/-- the settled reading of a part -/
theorem tM_settle {K : PySem.W.Frag} {m : M} {σ : St} {H : Hp} {Q : VK} {g : G} {s : S} {k : RV → G → S → Hp → Prop} (ok : Ok K g s σ H)
    (h : PostE K W σ g s H k (mSettle m s)) (q : ∀ r g' s' H' v, Step g H g' H' → SlKeep g g' → Ok K g' s' σ H' → RepRV K g' s' H' v r → (∀ o, r ≠ .new o) → k r g' s' H' → Q v H') : tM K W m σ H Q := by
  refine ⟨g, s, ok, (PostE.bind h).mono fun r g1 s1 H1 t1 k1 o1 h1 v rv => ?_⟩
  cases e : settle r with
  | none => rw [e] at h1; exact h1.elim
  | some r' =>
    rw [e] at h1
    obtain ⟨g2, t2, k2, o2, rv2⟩ := settle_ok o1 rv e
    have h2 := h1 g2 H1 t2 k2 o2
    exact q r' g2 s1 H1 v (t1.trans t2) (k1.trans k2) o2 rv2 (settle_no e) h2
theorem tOp_of {r : R2} {f : S → RV → RV → Res RV} {ma mb : M} (hs : OpS X W r f) {σ : St} {H : Hp} {Q : VK} {g : G} {s : S} (ok : Ok X.K g s σ H)
    (h : PostE X.K W σ g s H (kE X.K Q) (mBin f ma mb s)) : tOp r (tM X.K W ma) (tM X.K W mb) σ H Q := by
  refine tM_settle ok (PostE.bind h) fun x g1 s1 H1 v t1 k1 o1 rv nn h1 => ?_
  refine ⟨g1, s1, o1, (PostE.bind h1).mono fun y g2 s2 H2 t2 k2 o2 h2 u ru => ?_⟩
  exact hs σ g2 s2 H2 Q v u x y o2 (rv.held nn t2 k2) ru nn h2
variable {a b : Expr} {ma mb : M} {pos : Pos}
theorem me_bin {op : Operator} {r : R2} {f : S → RV → RV → Res RV} (ho : OpR X (binaryOp op) r) (hs : OpS X W r f) (ha : ME X W a ma) (hb : ME X W b mb) : ME X W (.BinOp a op b pos) (mBin f ma mb) :=
  pe_imp (pe_op ho ha hb) fun _ _ _ ⟨_, _, ok, h⟩ => tOp_of hs ok h
theorem me_cmp {op : CmpOp} {r : R2} {f : S → RV → RV → Res RV} (ho : OpR X (compareOp op) r) (hs : OpS X W r f) (ha : ME X W a ma) (hb : ME X W b mb) (hm : behindInMarks op b = false) : ME X W (.Compare a [op] [b] pos) (mBin f ma mb) :=
  pe_imp (pe_cmpR ho ha hb hm) fun _ _ _ ⟨_, _, ok, h⟩ => tOp_of hs ok h
end
end MI
/-! # Operations on values -/
namespace MI
open PySem L2

def asLst (s : S) : RV → Option (List D)
  | .d (.lst xs) => some xs
  | .at i => match s.env[i]? with
    | some (.own (.lst xs)) => some xs
    | _ => none
  | .d (.ref n) => match s.gl[n]? with
    | some (.lst xs) => some xs
    | _ => none
  | .new (.lst xs) => some xs
  | _ => none
def asDic (s : S) : RV → Option (List (Key × D))
  | .d (.dic xs) => some xs
  | .at i => match s.env[i]? with
    | some (.own (.dic xs)) => some xs
    | _ => none
  | .d (.ref n) => match s.gl[n]? with
    | some (.dic xs) => some xs
    | _ => none
  | .new (.dic xs) => some xs
  | _ => none
def asTup : RV → Option (List D)
  | .d (.tup xs) => some xs
  | _ => none
def asInt : RV → Option Int
  | .d (.int i) => some i
  | _ => none
def asStr : RV → Option Str
  | .d (.str i) => some i
  | _ => none

section
variable {K : PySem.W.Frag} {W : WX} {σ : St} {g : G} {s : S} {H : Hp}
theorem asInt_ok {v : V} {r : RV} {i : Int} (h : RepRV K g s H v r) (e : asInt r = some i) : v = .int i := by
  cases r with
  | d x => cases x <;> first | (cases e; cases (show Rep K g v _ from h); rfl) | cases e
  | «at» i => cases e
  | new o => cases e
theorem asStr_ok {v : V} {r : RV} {i : Str} (h : RepRV K g s H v r) (e : asStr r = some i) : v = .str i := by
  cases r with
  | d x => cases x <;> first | (cases e; cases (show Rep K g v _ from h); rfl) | cases e
  | «at» i => cases e
  | new o => cases e
theorem asTup_ok {v : V} {r : RV} {xs : List D} (ok : Ok K g s σ H) (h : RepRV K g s H v r) (e : asTup r = some xs) : ∃ a vs, v = .ref a ∧ SqT K H a vs ∧ RepL K g vs xs := by
  cases r with
  | d x =>
    cases x with
    | tup ys =>
      cases e
      cases (show Rep K g v _ from h) with
      | tup h1 r => exact ⟨_, _, rfl, sqT_mono ok.sub h1, r⟩
    | _ => cases e
  | «at» i => cases e
  | new o => cases e
theorem cell_sl {i : Nat} {o : MObj} (e : s.env[i]? = some (.own o)) : cellOf s (.sl i) = some o := by
  show (match s.env[i]? with | some (.own o) => some o | _ => none) = _
  rw [e]
theorem asLst_ok {v : V} {r : RV} {xs : List D} (ok : Ok K g s σ H) (h : RepRV K g s H v r) (e : asLst s r = some xs) : ∃ a vs, v = .ref a ∧ H a = some (.lst vs) ∧ RepL K g vs xs := by
  cases r with
  | d x =>
    cases x with
    | lst ys =>
      cases e
      cases (show Rep K g v _ from h) with
      | lst h1 r => exact ⟨_, _, rfl, ok.sub _ _ h1, r⟩
    | ref n =>
      cases (show Rep K g v _ from h) with
      | ref _ hn =>
        simp only [asLst] at e
        split at e
        · rename_i ys hg
          cases e
          obtain ⟨_, vs, h1, r⟩ := ok.cell (.gl n) (.lst xs) hg
          exact ⟨_, _, rfl, h1, r⟩
        · cases e
    | _ => cases e
  | «at» i =>
    simp only [asLst] at e
    split at e
    · rename_i ys hg
      cases e
      obtain ⟨_, vs, h1, r⟩ := ok.cell (.sl i) (.lst xs) (cell_sl hg)
      exact ⟨_, _, h, h1, r⟩
    · cases e
  | new o =>
    cases o with
    | lst ys =>
      cases e
      obtain ⟨a, hv, _, _, _, vs, h1, r⟩ := h
      exact ⟨a, vs, hv, h1, r⟩
    | _ => cases e
theorem asDic_ok {v : V} {r : RV} {xs : List (Key × D)} (ok : Ok K g s σ H) (h : RepRV K g s H v r) (e : asDic s r = some xs) : ∃ a vs, v = .ref a ∧ H a = some (.dK vs) ∧ RepK K g vs xs := by
  cases r with
  | d x =>
    cases x with
    | dic ys =>
      cases e
      cases (show Rep K g v _ from h) with
      | dic h1 r => exact ⟨_, _, rfl, ok.sub _ _ h1, r⟩
    | ref n =>
      cases (show Rep K g v _ from h) with
      | ref _ hn =>
        simp only [asDic] at e
        split at e
        · rename_i ys hg
          cases e
          obtain ⟨_, vs, h1, r⟩ := ok.cell (.gl n) (.dic xs) hg
          exact ⟨_, _, rfl, h1, r⟩
        · cases e
    | _ => cases e
  | «at» i =>
    simp only [asDic] at e
    split at e
    · rename_i ys hg
      cases e
      obtain ⟨_, vs, h1, r⟩ := ok.cell (.sl i) (.dic xs) (cell_sl hg)
      exact ⟨_, _, h, h1, r⟩
    · cases e
  | new o =>
    cases o with
    | dic ys =>
      cases e
      obtain ⟨a, hv, _, _, _, vs, h1, r⟩ := h
      exact ⟨a, vs, hv, h1, r⟩
    | _ => cases e
end

/-! ### arithmetic -/
/-- of two operations the one that is not stuck -/
def orF (f f' : S → RV → RV → Res RV) : S → RV → RV → Res RV := fun s a b => match f s a b with
  | .stuck => f' s a b
  | r => r
theorem OpS.or {X : Cx} {W : WX} {r r' : R2} {f f' : S → RV → RV → Res RV} (h : OpS X W r f) (h' : OpS X W r' f') : OpS X W (fun x y H Q => r x y H Q ∨ r' x y H Q) (orF f f') := by
  intro σ g s H Q x y ra rb ok rx ry nn q
  unfold orF at q
  cases e : f s ra rb with
  | ok a s' => simp only [e] at q; exact .inl (h σ g s H Q x y ra rb ok rx ry nn (by rw [e]; exact q))
  | exc c p s' => simp only [e] at q; exact .inl (h σ g s H Q x y ra rb ok rx ry nn (by rw [e]; exact q))
  | stuck => simp only [e] at q; exact .inr (h' σ g s H Q x y ra rb ok rx ry nn q)
def fI (C : Int → Int → Bool) (f : Int → Int → D) : S → RV → RV → Res RV := fun s a b => match asInt a, asInt b with
  | some i, some j => if C i j = true then .ok (.d (f i j)) s else .stuck
  | _, _ => .stuck
theorem fI_ok {X : Cx} {W : WX} {C : Int → Int → Bool} {f : Int → Int → D} {C' : Int → Int → Prop} {f' : Int → Int → V} (hc : ∀ i j, C i j = true → C' i j) (hf : ∀ K g i j, Rep K g (f' i j) (f i j)) : OpS X W (rI C' f') (fI C f) := by
  intro σ g s H Q x y ra rb ok rx ry nn q
  unfold fI at q
  cases e1 : asInt ra with
  | none => simp only [e1] at q; exact q.elim
  | some i =>
    cases e2 : asInt rb with
    | none => simp only [e1, e2] at q; exact q.elim
    | some j =>
      simp only [e1, e2] at q
      by_cases h : C i j = true
      · rw [if_pos h] at q
        exact ⟨i, j, asInt_ok rx e1, asInt_ok ry e2, hc i j h, kE_d q ok (hf _ _ i j)⟩
      · rw [if_neg h] at q; exact q.elim
theorem rI0_of {g : Int → Int → V} {x y : V} {H : Hp} {Q : VK} (h : rI (fun _ _ => True) g x y H Q) : rI0 g x y H Q := by
  obtain ⟨i, j, e1, e2, _, q⟩ := h
  exact ⟨i, j, e1, e2, q⟩
theorem OpR.imp {X : Cx} {f : Value → Value → Sem Value} {r r' : R2} (h : OpR X f r) (i : ∀ x y H Q, r' x y H Q → r x y H Q) : OpR X f r' :=
  fun pins s σ H x y v u Q I rx ry q => h pins s σ H x y v u Q I rx ry (i x y H Q q)
def cT : Int → Int → Bool := fun _ _ => true
def cMul : Int → Int → Bool := fun i j => decide (i.natAbs < 2 ^ 64) || decide (j.natAbs < 2 ^ 64) || decide (i.natAbs.log2 + j.natAbs.log2 < 1000000)
def cMod : Int → Int → Bool := fun _ j => decide (0 < j)
def cFdiv : Int → Int → Bool := fun _ j => decide (0 < j) && (decide (j < 1073741824) || decide (j.natAbs.log2 < 9000))
def cPow : Int → Int → Bool := fun i j => decide (0 ≤ j) && (decide (j ≤ 1000000) && decide (i.natAbs < 2 ^ 64))
section
variable {X : Cx} {W : WX}
def opSub := fI cT fun i j => .int (i - j)
theorem os_sub : OpS X W (rI0 fun i j => .int (i - j)) opSub := fun σ g s H Q x y ra rb ok rx ry nn q => rI0_of (fI_ok (C' := fun _ _ => True) (fun _ _ _ => trivial) (fun _ _ i j => .int _) σ g s H Q x y ra rb ok rx ry nn q)
def rMul2 : R2 := fun x y H Q => rI CMul (fun i j => .int (i * j)) x y H Q ∨ rI CMulW (fun i j => .int (i * j)) x y H Q
theorem op_mul2 : OpR X (binaryOp .Mult) rMul2 := op_mul.or op_mulW
def opMulI := fI cMul fun i j => .int (i * j)
theorem os_mulI : OpS X W rMul2 opMulI := by
  intro σ g s H Q x y ra rb ok rx ry nn q
  obtain ⟨i, j, e1, e2, hc, q⟩ := fI_ok (X := X) (C' := fun i j => cMul i j = true) (f' := fun i j => V.int (i * j)) (fun _ _ h => h) (fun _ _ i j => .int _) σ g s H Q x y ra rb ok rx ry nn q
  unfold cMul at hc
  simp only [Bool.or_eq_true, decide_eq_true_eq] at hc
  rcases hc with (h | h) | h
  · exact .inl ⟨i, j, e1, e2, .inl ⟨by omega, by omega⟩, q⟩
  · exact .inl ⟨i, j, e1, e2, .inr ⟨by omega, by omega⟩, q⟩
  · exact .inr ⟨i, j, e1, e2, h, q⟩
def opMod := fI cMod fun i j => .int (i % j)
theorem os_mod : OpS X W (rI (fun _ j => 0 < j) fun i j => .int (i % j)) opMod := fI_ok (fun _ _ h => of_decide_eq_true h) (fun _ _ i j => .int _)
def rFdiv2 : R2 := fun x y H Q => rI CDiv (fun i j => .int (i / j)) x y H Q ∨ rI CDivW (fun i j => .int (i / j)) x y H Q
theorem op_fdiv2 : OpR X (binaryOp .FloorDiv) rFdiv2 := op_fdiv.or op_fdivW
def opFdiv := fI cFdiv fun i j => .int (i / j)
theorem os_fdiv : OpS X W rFdiv2 opFdiv := by
  intro σ g s H Q x y ra rb ok rx ry nn q
  obtain ⟨i, j, e1, e2, hc, q⟩ := fI_ok (X := X) (C' := fun i j => cFdiv i j = true) (f' := fun i j => V.int (i / j)) (fun _ _ h => h) (fun _ _ i j => .int _) σ g s H Q x y ra rb ok rx ry nn q
  unfold cFdiv at hc
  simp only [Bool.or_eq_true, Bool.and_eq_true, decide_eq_true_eq] at hc
  obtain ⟨h0, h | h⟩ := hc
  · exact .inl ⟨i, j, e1, e2, ⟨h0, h⟩, q⟩
  · exact .inr ⟨i, j, e1, e2, ⟨h0, h⟩, q⟩
def opPow := fI cPow fun i j => .int (i ^ j.toNat)
theorem cPow_ok (i j : Int) (h : cPow i j = true) : CPow i j := by
  unfold cPow at h
  simp only [Bool.and_eq_true, decide_eq_true_eq] at h
  exact ⟨h.1, h.2.1, h.2.2⟩
theorem os_pow : OpS X W (rI CPow fun i j => .int (i ^ j.toNat)) opPow := fI_ok cPow_ok (fun _ _ i j => .int _)
def opShl := fI cPow fun i j => .int (i * 2 ^ j.toNat)
theorem os_shl : OpS X W (rI CPow fun i j => .int (i * 2 ^ j.toNat)) opShl := fI_ok cPow_ok (fun _ _ i j => .int _)

/-! ### a + b -/
def opAddI := fI cT fun i j => .int (i + j)
theorem os_addI : OpS X W (rI0 fun i j => .int (i + j)) opAddI := fun σ g s H Q x y ra rb ok rx ry nn q => rI0_of (fI_ok (C' := fun _ _ => True) (fun _ _ _ => trivial) (fun _ _ i j => .int _) σ g s H Q x y ra rb ok rx ry nn q)
def opAddS : S → RV → RV → Res RV := fun s a b => match asStr a, asStr b with
  | some x, some y => if x.length + y.length ≤ sizeLine then .ok (.d (.str (x ++ y))) s else .stuck
  | _, _ => .stuck
theorem os_addS : OpS X W (fun x y H Q => ∃ i j, x = .str i ∧ y = .str j ∧ i.length + j.length ≤ sizeLine ∧ Q (.str (i ++ j)) H) opAddS := by
  intro σ g s H Q x y ra rb ok rx ry nn q
  unfold opAddS at q
  split at q
  · rename_i i j e1 e2
    split at q
    · rename_i h
      exact ⟨i, j, asStr_ok rx e1, asStr_ok ry e2, h, kE_d q ok (.str _)⟩
    · exact q.elim
  · exact q.elim
def opAddT : S → RV → RV → Res RV := fun s a b => match asTup a, asTup b with
  | some x, some y => if x.length + y.length ≤ sizeLine then .ok (.d (.tup (x ++ y))) s else .stuck
  | _, _ => .stuck
theorem RepL.nil_iff {K : PySem.W.Frag} {g : G} {vs : List V} {ds : List D} (r : RepL K g vs ds) : vs = [] ↔ ds = [] := by
  cases r <;> simp
theorem os_addT : OpS X W (rCatA X.K) opAddT := by
  intro σ g s H Q x y ra rb ok rx ry nn q
  unfold opAddT at q
  split at q
  · rename_i i j e1 e2
    split at q
    · rename_i h
      obtain ⟨a, vs, rfl, h1, r1⟩ := asTup_ok ok rx e1
      obtain ⟨b, ws, rfl, h2, r2⟩ := asTup_ok ok ry e2
      refine ⟨a, b, vs, ws, rfl, rfl, h1, h2, by rw [r1.length, r2.length]; exact h, fun z => ?_, fun z z' => ?_, fun z z' p hp => kE_tup q ok hp (r1.append r2)⟩
      · rw [(RepL.nil_iff r1).mp z, List.nil_append] at q
        cases rb with
        | d w =>
          cases w <;> first | cases e2
          exact kE_d q ok ry
        | «at» _ => cases e2
        | new _ => cases e2
      · rw [(RepL.nil_iff r2).mp z', List.append_nil] at q
        cases ra with
        | d w =>
          cases w <;> first | cases e1
          exact kE_d q ok rx
        | «at» _ => cases e1
        | new _ => cases e1
    · exact q.elim
  · exact q.elim
def opAddL : S → RV → RV → Res RV := fun s a b => match asLst s a, asLst s b with
  | some x, some y => if x.length + y.length ≤ sizeLine then .ok (.new (.lst (x ++ y))) s else .stuck
  | _, _ => .stuck
theorem os_addL : OpS X W rCat opAddL := by
  intro σ g s H Q x y ra rb ok rx ry nn q
  unfold opAddL at q
  split at q
  · rename_i i j e1 e2
    split at q
    · rename_i h
      obtain ⟨a, vs, rfl, h1, r1⟩ := asLst_ok ok rx e1
      obtain ⟨b, ws, rfl, h2, r2⟩ := asLst_ok ok ry e2
      exact ⟨a, b, vs, ws, rfl, rfl, h1, h2, by rw [r1.length, r2.length]; exact h, fun p hp => kE_new q ok hp ⟨_, upd_same, r1.append r2⟩⟩
    · exact q.elim
  · exact q.elim
def opAdd := orF opAddI (orF opAddS (orF opAddT opAddL))
theorem op_addA : OpR X (binaryOp .Add) (fun x y H Q => rI0 (fun i j => .int (i + j)) x y H Q ∨ (∃ i j, x = .str i ∧ y = .str j ∧ i.length + j.length ≤ sizeLine ∧ Q (.str (i ++ j)) H) ∨ rCatA X.K x y H Q ∨ rCat x y H Q) :=
  op_add.or (op_add_str.or (op_catA.or op_cat))
theorem os_add : OpS X W (fun x y H Q => rI0 (fun i j => .int (i + j)) x y H Q ∨ (∃ i j, x = .str i ∧ y = .str j ∧ i.length + j.length ≤ sizeLine ∧ Q (.str (i ++ j)) H) ∨ rCatA X.K x y H Q ∨ rCat x y H Q) opAdd :=
  os_addI.or (os_addS.or (os_addT.or os_addL))
variable {a b : Expr} {ma mb : M} {pos : Pos}
theorem me_add (ha : ME X W a ma) (hb : ME X W b mb) : ME X W (.BinOp a .Add b pos) (mBin opAdd ma mb) := me_bin op_addA os_add ha hb
theorem me_sub (ha : ME X W a ma) (hb : ME X W b mb) : ME X W (.BinOp a .Sub b pos) (mBin opSub ma mb) := me_bin op_sub os_sub ha hb
theorem me_mod (ha : ME X W a ma) (hb : ME X W b mb) : ME X W (.BinOp a .Mod b pos) (mBin opMod ma mb) := me_bin op_mod os_mod ha hb
theorem me_fdiv (ha : ME X W a ma) (hb : ME X W b mb) : ME X W (.BinOp a .FloorDiv b pos) (mBin opFdiv ma mb) := me_bin op_fdiv2 os_fdiv ha hb
theorem me_pow (ha : ME X W a ma) (hb : ME X W b mb) : ME X W (.BinOp a .Pow b pos) (mBin opPow ma mb) := me_bin op_pow os_pow ha hb
theorem me_shl (ha : ME X W a ma) (hb : ME X W b mb) : ME X W (.BinOp a .LShift b pos) (mBin opShl ma mb) := me_bin op_shl os_shl ha hb
end
end MI
/-! # Comparisons -/
namespace MI
open PySem L2

/-- what a value is as data, for the moment -/
def asD (s : S) : RV → Option D
  | .d (.ref n) => match s.gl[n]? with
    | some o => frzO o
    | none => none
  | .d x => some x
  | .at i => match s.env[i]? with
    | some (.own o) => frzO o
    | _ => none
  | .new o => frzO o
section
variable {K : PySem.W.Frag} {W : WX} {σ : St} {g : G} {s : S} {H : Hp}
theorem frz_le' {a : Addr} {u : HO} (sb : Sub g.F H) (h : H a = some u) : GLe g (g.frz a u) ∧ Sub (g.frz a u).F H := by
  refine ⟨⟨fun b w e => ?_, Nat.le_refl _, fun _ _ => rfl⟩, fun b w e => ?_⟩
  · show upd g.F a u b = _
    by_cases z : b = a
    · subst z; rw [upd_same, ← h]; exact sb _ _ e
    · rw [upd_ne z]; exact e
  · have e' : upd g.F a u b = some w := e
    by_cases z : b = a
    · subst z; rw [upd_same] at e'; rw [h]; exact e'
    · rw [upd_ne z] at e'; exact sb _ _ e'
theorem frzO_rep' {a : Addr} {o : MObj} {d : D} (sb : Sub g.F H) (e : frzO o = some d) (r : ObjRep K g H a o) :
    ∃ g', GLe g g' ∧ Sub g'.F H ∧ Rep K g' (.ref a) d := by
  cases o with
  | lst xs =>
    cases e
    obtain ⟨vs, h, r⟩ := r
    obtain ⟨l, sb'⟩ := frz_le' sb h
    exact ⟨_, l, sb', .lst upd_same (r.mono l)⟩
  | dic xs =>
    cases e
    obtain ⟨vs, h, r⟩ := r
    obtain ⟨l, sb'⟩ := frz_le' sb h
    exact ⟨_, l, sb', .dic upd_same (r.mono l)⟩
  | ins c fs => cases e
/-- .. over any ghost behind g whose F stands in H -/
theorem asD_ok {g0 : G} {v : V} {r : RV} {d : D} (ok : Ok K g0 s σ H) (l0 : GLe g0 g) (sb : Sub g.F H) (h : RepRV K g0 s H v r) (e : asD s r = some d) : ∃ g', GLe g g' ∧ Sub g'.F H ∧ Rep K g' v d := by
  cases r with
  | d x =>
    by_cases hx : ∃ n, x = .ref n
    · obtain ⟨n, rfl⟩ := hx
      simp only [asD] at e
      split at e
      · rename_i o hg
        obtain ⟨_, q⟩ := ok.cell (.gl n) o hg
        cases (show Rep K g0 v _ from h) with
        | ref _ hn => exact frzO_rep' sb e (q.mono l0 rfl)
      · cases e
    · have e' : asD s (.d x) = some x := by cases x <;> first | rfl | exact absurd ⟨_, rfl⟩ hx
      rw [e'] at e
      cases e
      exact ⟨g, GLe.refl _, sb, Rep.mono l0 h⟩
  | «at» i =>
    simp only [asD] at e
    split at e
    · rename_i o hg
      have hv : v = .ref (g0.adr (.sl i)) := h
      subst hv
      obtain ⟨_, q⟩ := ok.cell (.sl i) o (cell_sl hg)
      exact frzO_rep' sb e (q.mono l0 rfl)
    · cases e
  | new o =>
    obtain ⟨a, rfl, _, _, _, q⟩ := h
    exact frzO_rep' sb e (q.mono l0 rfl)
end

/-! ### == -/
def eqAll (f : D → D → Option Bool) : List D → List D → Option Bool
  | [], [] => some true
  | x :: xs, y :: ys => match f x y, eqAll f xs ys with
    | some a, some b => some (a && b)
    | _, _ => none
  | [], _ :: _ => some false
  | _ :: _, [] => some false
def eqS : D → D → Option Bool
  | .non, .non => some true
  | .non, .bl _ => some false
  | .non, .int _ => some false
  | .non, .str _ => some false
  | .bl _, .non => some false
  | .bl a, .bl b => some (a == b)
  | .bl a, .int j => some ((if a then 1 else 0) == j)
  | .bl _, .str _ => some false
  | .int _, .non => some false
  | .int i, .bl b => some (i == (if b then 1 else 0))
  | .int i, .int j => some (i == j)
  | .int _, .str _ => some false
  | .str _, .non => some false
  | .str _, .bl _ => some false
  | .str _, .int _ => some false
  | .str x, .str y => some (x == y)
  | _, _ => none
/-- Python's == of data nested below n; none: not told -/
def eqvO : Nat → D → D → Option Bool
  | 0, x, y => eqS x y
  | n + 1, .tup xs, .tup ys => eqAll (eqvO n) xs ys
  | n + 1, .lst xs, .lst ys => eqAll (eqvO n) xs ys
  | _ + 1, .tup _, .lst _ => some false
  | _ + 1, .lst _, .tup _ => some false
  | _ + 1, .tup _, .non => some false
  | _ + 1, .tup _, .bl _ => some false
  | _ + 1, .tup _, .int _ => some false
  | _ + 1, .tup _, .str _ => some false
  | _ + 1, .lst _, .non => some false
  | _ + 1, .lst _, .bl _ => some false
  | _ + 1, .lst _, .int _ => some false
  | _ + 1, .lst _, .str _ => some false
  | _ + 1, .non, .tup _ => some false
  | _ + 1, .bl _, .tup _ => some false
  | _ + 1, .int _, .tup _ => some false
  | _ + 1, .str _, .tup _ => some false
  | _ + 1, .non, .lst _ => some false
  | _ + 1, .bl _, .lst _ => some false
  | _ + 1, .int _, .lst _ => some false
  | _ + 1, .str _, .lst _ => some false
  | _ + 1, x, y => eqS x y

section
variable {X : Cx} {pins : List (Addr × Obj)} {σ : St} {g : G} {H : Hp} {s : Shared}
theorem tup_not_lst (I : Inv X pins σ H s) {a : Addr} {vs ws : List V} (h : SqT X.K H a vs) (h' : H a = some (.lst ws)) : False := by
  rcases h with h | ⟨o, its, n, hk, _⟩
  · rcases h with h | ⟨o, h⟩ <;> (rw [h'] at h; cases h)
  · obtain ⟨_, z⟩ := I.bs a o (I.mod.kin a o hk)
    rw [h'] at z; cases z
/-- both answers: RcAt (==) and EqAt (in a comparison of parts) -/
def EqT (X : Cx) (s : Shared) (A : Around) (v u : Value) (b : Bool) : Prop := SeqAt.RcAt A s v u b ∧ SeqAt.EqAt A s v u b ∧ SeqAt.RcNeAt A s v u (!b)
theorem eqS_at {A : Around} : ∀ {x y : D} {b : Bool} {vx vy : V} {v u : Value}, eqS x y = some b → Rep X.K g vx x → Rep X.K g vy y → RelV vx v → RelV vy u → EqT X s A v u b
  | .non, .non, _, _, _, _, _, e, .non, .non, r1, r2 => by
    cases e
    cases r1
    cases r2
    exact ⟨SeqAt.RcAt.none_none, SeqAt.EqAt.same _, SeqAt.RcNeAt.none_none⟩
  | .non, .bl q, _, _, _, _, _, e, .non, .bl _, r1, r2 => by
    cases e
    cases r1
    cases r2
    exact ⟨SeqAt.RcAt.none_bool _, SeqAt.EqAt.none_bool _, SeqAt.RcNeAt.none_bool _⟩
  | .non, .int q, _, _, _, _, _, e, .non, .int _, r1, r2 => by
    cases e
    cases r1
    obtain ⟨t2, rfl⟩ := r2
    exact ⟨SeqAt.RcAt.none_int _ _, SeqAt.EqAt.none_int _ _, SeqAt.RcNeAt.none_int _ _⟩
  | .non, .str q, _, _, _, _, _, e, .non, .str _, r1, r2 => by
    cases e
    cases r1
    obtain ⟨t2, rfl⟩ := r2
    exact ⟨SeqAt.RcAt.none_str _ _, SeqAt.EqAt.none_str _ _, SeqAt.RcNeAt.none_str _ _⟩
  | .bl p, .non, _, _, _, _, _, e, .bl _, .non, r1, r2 => by
    cases e
    cases r1
    cases r2
    exact ⟨SeqAt.RcAt.bool_none _, SeqAt.EqAt.bool_none _, SeqAt.RcNeAt.bool_none _⟩
  | .bl p, .bl q, _, _, _, _, _, e, .bl _, .bl _, r1, r2 => by
    cases e
    cases r1
    cases r2
    exact ⟨SeqAt.RcAt.bool_bool _ _, SeqAt.EqAt.bool_bool _ _, SeqAt.RcNeAt.bool_bool _ _⟩
  | .bl p, .int q, _, _, _, _, _, e, .bl _, .int _, r1, r2 => by
    cases e
    cases r1
    obtain ⟨t2, rfl⟩ := r2
    exact ⟨SeqAt.RcAt.bool_int _ _ _, SeqAt.EqAt.bool_int _ _ _, SeqAt.RcNeAt.bool_int _ _ _⟩
  | .bl p, .str q, _, _, _, _, _, e, .bl _, .str _, r1, r2 => by
    cases e
    cases r1
    obtain ⟨t2, rfl⟩ := r2
    exact ⟨SeqAt.RcAt.bool_str _ _ _, SeqAt.EqAt.bool_str _ _ _, SeqAt.RcNeAt.bool_str _ _ _⟩
  | .int p, .non, _, _, _, _, _, e, .int _, .non, r1, r2 => by
    cases e
    obtain ⟨t, rfl⟩ := r1
    cases r2
    exact ⟨SeqAt.RcAt.int_none _ _, SeqAt.EqAt.int_none _ _, SeqAt.RcNeAt.int_none _ _⟩
  | .int p, .bl q, _, _, _, _, _, e, .int _, .bl _, r1, r2 => by
    cases e
    obtain ⟨t, rfl⟩ := r1
    cases r2
    exact ⟨SeqAt.RcAt.int_bool _ _ _, SeqAt.EqAt.int_bool _ _ _, SeqAt.RcNeAt.int_bool _ _ _⟩
  | .int p, .int q, _, _, _, _, _, e, .int _, .int _, r1, r2 => by
    cases e
    obtain ⟨t, rfl⟩ := r1
    obtain ⟨t2, rfl⟩ := r2
    exact ⟨SeqAt.RcAt.int_int _ _ _ _, SeqAt.EqAt.int_int _ _ _ _, SeqAt.RcNeAt.int_int _ _ _ _⟩
  | .int p, .str q, _, _, _, _, _, e, .int _, .str _, r1, r2 => by
    cases e
    obtain ⟨t, rfl⟩ := r1
    obtain ⟨t2, rfl⟩ := r2
    exact ⟨SeqAt.RcAt.int_str _ _ _ _, SeqAt.EqAt.int_str _ _ _ _, SeqAt.RcNeAt.int_str _ _ _ _⟩
  | .str p, .non, _, _, _, _, _, e, .str _, .non, r1, r2 => by
    cases e
    obtain ⟨t, rfl⟩ := r1
    cases r2
    exact ⟨SeqAt.RcAt.str_none _ _, SeqAt.EqAt.str_none _ _, SeqAt.RcNeAt.str_none _ _⟩
  | .str p, .bl q, _, _, _, _, _, e, .str _, .bl _, r1, r2 => by
    cases e
    obtain ⟨t, rfl⟩ := r1
    cases r2
    exact ⟨SeqAt.RcAt.str_bool _ _ _, SeqAt.EqAt.str_bool _ _ _, SeqAt.RcNeAt.str_bool _ _ _⟩
  | .str p, .int q, _, _, _, _, _, e, .str _, .int _, r1, r2 => by
    cases e
    obtain ⟨t, rfl⟩ := r1
    obtain ⟨t2, rfl⟩ := r2
    exact ⟨SeqAt.RcAt.str_int _ _ _ _, SeqAt.EqAt.str_int _ _ _ _, SeqAt.RcNeAt.str_int _ _ _ _⟩
  | .str p, .str q, _, _, _, _, _, e, .str _, .str _, r1, r2 => by
    cases e
    obtain ⟨t, rfl⟩ := r1
    obtain ⟨t2, rfl⟩ := r2
    exact ⟨SeqAt.RcAt.str_str _ _ _ _, SeqAt.EqAt.str_str _ _ _ _, SeqAt.RcNeAt.str_str _ _ _ _⟩
  | .tup _, _, _, _, _, _, _, e, _, _, r1, r2 => by cases e
  | .lst _, _, _, _, _, _, _, e, _, _, r1, r2 => by cases e
  | .dic _, _, _, _, _, _, _, e, _, _, r1, r2 => by cases e
  | .scr _, _, _, _, _, _, _, e, _, _, r1, r2 => by cases e
  | .ref _, _, _, _, _, _, _, e, _, _, r1, r2 => by cases e
  | .non, .tup _, _, _, _, _, _, e, _, _, r1, r2 => by cases e
  | .bl p, .tup _, _, _, _, _, _, e, _, _, r1, r2 => by cases e
  | .int p, .tup _, _, _, _, _, _, e, _, _, r1, r2 => by cases e
  | .str p, .tup _, _, _, _, _, _, e, _, _, r1, r2 => by cases e
  | .non, .lst _, _, _, _, _, _, e, _, _, r1, r2 => by cases e
  | .bl p, .lst _, _, _, _, _, _, e, _, _, r1, r2 => by cases e
  | .int p, .lst _, _, _, _, _, _, e, _, _, r1, r2 => by cases e
  | .str p, .lst _, _, _, _, _, _, e, _, _, r1, r2 => by cases e
  | .non, .dic _, _, _, _, _, _, e, _, _, r1, r2 => by cases e
  | .bl p, .dic _, _, _, _, _, _, e, _, _, r1, r2 => by cases e
  | .int p, .dic _, _, _, _, _, _, e, _, _, r1, r2 => by cases e
  | .str p, .dic _, _, _, _, _, _, e, _, _, r1, r2 => by cases e
  | .non, .ref _, _, _, _, _, _, e, _, _, r1, r2 => by cases e
  | .non, .scr _, _, _, _, _, _, e, _, _, r1, r2 => by cases e
  | .bl p, .ref _, _, _, _, _, _, e, _, _, r1, r2 => by cases e
  | .bl p, .scr _, _, _, _, _, _, e, _, _, r1, r2 => by cases e
  | .int p, .ref _, _, _, _, _, _, e, _, _, r1, r2 => by cases e
  | .int p, .scr _, _, _, _, _, _, e, _, _, r1, r2 => by cases e
  | .str p, .ref _, _, _, _, _, _, e, _, _, r1, r2 => by cases e
  | .str p, .scr _, _, _, _, _, _, e, _, _, r1, r2 => by cases e
/-- the items' answers, by places -/
theorem eqAll_at {f : D → D → Option Bool} {P : Value → Value → Bool → Prop} {g : G}
    (ih : ∀ x y b vx vy v u, f x y = some b → Rep X.K g vx x → Rep X.K g vy y → RelV vx v → RelV vy u → P v u b) :
    ∀ {xs ys : List D} {b : Bool} {vs ws : List V} {us zs : List Value}, eqAll f xs ys = some b → RepL X.K g vs xs → RepL X.K g ws ys → Vals vs us → Vals ws zs →
      ∃ e : Nat → Bool, (∀ j (h1 : j < us.length) (h2 : j < zs.length), P us[j] zs[j] (e j)) ∧ b = ((List.range (min us.length zs.length)).all e && us.length == zs.length)
  | [], [], b, _, _, _, _, h, .nil, .nil, .nil, .nil => by
    cases h
    exact ⟨fun _ => true, fun j h1 => absurd h1 (Nat.not_lt_zero _), rfl⟩
  | [], _ :: _, b, _, _, _, _, h, .nil, .cons _ _, .nil, .cons _ _ => by
    cases h
    exact ⟨fun _ => true, fun j h1 => absurd h1 (Nat.not_lt_zero _), by simp⟩
  | _ :: _, [], b, _, _, _, _, h, .cons _ _, .nil, .cons _ _, .nil => by
    cases h
    exact ⟨fun _ => true, fun j _ h1 => absurd h1 (Nat.not_lt_zero _), by simp⟩
  | x :: xs, y :: ys, b, _, _, _, _, h, .cons a1 b1, .cons a2 b2, .cons c1 d1, .cons c2 d2 => by
    simp only [eqAll] at h
    split at h
    · rename_i p q e1 e2
      cases h
      obtain ⟨e, he, hb⟩ := eqAll_at ih e2 b1 b2 d1 d2
      refine ⟨fun j => match j with | 0 => p | j + 1 => e j, fun j h1 h2 => ?_, ?_⟩
      · cases j with
        | zero => exact ih _ _ _ _ _ _ _ e1 a1 a2 c1 c2
        | succ j => exact he j (Nat.lt_of_succ_lt_succ h1) (Nat.lt_of_succ_lt_succ h2)
      · rw [hb, List.length_cons, List.length_cons, Nat.succ_min_succ, List.range_succ_eq_map, List.all_cons, List.all_map, ← Bool.and_assoc]
        congr 1
        simp
    · cases h
theorem same_true (I : Inv X pins σ H s) (sb : Sub g.F H) : ∀ (n : Nat) {x y : D} {b : Bool} {v : V}, eqvO n x y = some b → Rep X.K g v x → Rep X.K g v y → b = true := by
  have base : ∀ {x y : D} {b : Bool} {v : V}, eqS x y = some b → Rep X.K g v x → Rep X.K g v y → b = true := by
    intro x y b v e rx ry
    cases x <;> cases y <;> first
      | (cases e; done)
      | (simp only [eqS, Option.some.injEq] at e
         subst e
         cases rx <;> cases ry <;> simp)
  have all : ∀ {f : D → D → Option Bool}, (∀ {x y : D} {b : Bool} {v : V}, f x y = some b → Rep X.K g v x → Rep X.K g v y → b = true) →
      ∀ {xs ys : List D} {b : Bool} {vs : List V}, eqAll f xs ys = some b → RepL X.K g vs xs → RepL X.K g vs ys → b = true := by
    intro f ih xs
    induction xs with
    | nil =>
      intro ys b vs e r1 r2
      cases r1; cases r2; cases e; rfl
    | cons x xs ihx =>
      intro ys b vs e r1 r2
      cases r1 with
      | cons a1 b1 =>
        cases r2 with
        | cons a2 b2 =>
          simp only [eqAll] at e
          split at e
          · rename_i p q e1 e2
            cases e
            rw [ih e1 a1 a2, ihx e2 b1 b2]; rfl
          · cases e
  intro n
  induction n with
  | zero => exact base
  | succ n ih =>
    intro x y b v e rx ry
    cases x with
    | tup xs =>
      cases y with
      | tup ys =>
        cases rx with
        | tup h1 r1 =>
          cases ry with
          | tup h2 r2 =>
            have z := I.tuple_inj (sqT_mono sb h1) (sqT_mono sb h2)
            subst z
            exact all ih (show eqAll (eqvO n) _ _ = some b from e) r1 r2
      | lst ys =>
        cases rx with
        | tup h1 r1 =>
          cases ry with
          | lst h2 r2 => exact (tup_not_lst I (sqT_mono sb h1) (sb _ _ h2)).elim
      | _ => first | (cases e; done) | (cases rx; cases ry)
    | lst xs =>
      cases y with
      | lst ys =>
        cases rx with
        | lst h1 r1 =>
          cases ry with
          | lst h2 r2 =>
            have z := (sb _ _ h1).symm.trans (sb _ _ h2)
            cases z
            exact all ih (show eqAll (eqvO n) _ _ = some b from e) r1 r2
      | tup ys =>
        cases rx with
        | lst h1 r1 =>
          cases ry with
          | tup h2 r2 => exact (tup_not_lst I (sqT_mono sb h2) (sb _ _ h1)).elim
      | _ => first | (cases e; done) | (cases rx; cases ry)
    | _ => cases y <;> first | (cases e; done) | exact base e rx ry | (cases rx; cases ry)
theorem eqvO_at (I : Inv X pins σ H s) (sb : Sub g.F H) : ∀ (n : Nat) {x y : D} {b : Bool} {vx vy : V} {v u : Value} {A : Around}, A.units + n < cLine →
    eqvO n x y = some b → Rep X.K g vx x → Rep X.K g vy y → RelV vx v → RelV vy u → EqT X s A v u b := by
  intro n
  induction n with
  | zero => intro x y b vx vy v u A hu e rx ry r1 r2; exact eqS_at e rx ry r1 r2
  | succ n ih =>
    intro x y b vx vy v u A hu e rx ry r1 r2
    have hu1 : A.units < cLine := by omega
    have refs : ∀ {l m : Addr} {k : Bool}, (SeqAt.RcAt A s (.ref l) (.ref m) k ∧ SeqAt.RcNeAt A s (.ref l) (.ref m) (!k)) → (l = m → k = true) → EqT X s A (.ref l) (.ref m) k := fun {l m k} ⟨h, hn⟩ h' => by
      refine ⟨h, ?_, hn⟩
      by_cases z : l = m
      · rw [h' z, z]; exact SeqAt.EqAt.same _
      · exact SeqAt.EqAt.of_refs z h
    have step : ∀ {xs ys : List D} {vs ws : List V} {us zs : List Value} {b : Bool}, eqAll (eqvO n) xs ys = some b → RepL X.K g vs xs → RepL X.K g ws ys → Vals vs us → Vals ws zs →
        ∃ e : Nat → Bool, (∀ j (h1 : j < us.length) (h2 : j < zs.length), SeqAt.EqAt A.in1 s us[j] zs[j] (e j)) ∧ b = ((List.range (min us.length zs.length)).all e && us.length == zs.length) :=
      fun he q1 q2 q3 q4 => eqAll_at (P := fun v u b => SeqAt.EqAt A.in1 s v u b) (fun x y b vx vy v u e a1 a2 a3 a4 => (ih (A := A.in1) (by show A.units + 1 + n < cLine; omega) e a1 a2 a3 a4).2.1) he q1 q2 q3 q4
    have sT : ∀ {xs ys : List D}, x = .tup xs → y = .tup ys → EqT X s A v u b := by
      rintro xs ys rfl rfl
      have sm : ∀ {v : V}, Rep X.K g v (.tup xs) → Rep X.K g v (.tup ys) → b = true := fun h1 h2 => same_true I sb (n + 1) e h1 h2
      cases rx with
      | tup h1 q1 =>
        cases ry with
        | tup h2 q2 =>
          cases (show v = Value.ref _ from r1)
          cases (show u = Value.ref _ from r2)
          obtain ⟨us, rv, t1, _⟩ := I.tuple (sqT_mono sb h1)
          obtain ⟨zs, rz, t2, _⟩ := I.tuple (sqT_mono sb h2)
          obtain ⟨f, hf, hb⟩ := step e q1 q2 rv rz
          refine refs ?_ fun z => ?_
          · rw [hb]
            have hj : ∀ j (h1 : j < us.toArray.size) (h2 : j < zs.toArray.size), SeqAt.EqAt A.in1 s us.toArray[j] zs.toArray[j] (f j) := fun j h1 h2 => by
              have := hf j (by simpa using h1) (by simpa using h2)
              simpa using this
            have k := SeqAt.RcAt.tuples (e := f) t1 t2 hu1 hj
            have kn := SeqAt.RcNeAt.tuples (e := f) t1 t2 hu1 hj
            exact ⟨by simpa using k, by simpa using kn⟩
          · subst z
            exact sm (.tup h1 q1) (.tup h2 q2)
    have sL : ∀ {xs ys : List D}, x = .lst xs → y = .lst ys → EqT X s A v u b := by
      rintro xs ys rfl rfl
      have sm : ∀ {v : V}, Rep X.K g v (.lst xs) → Rep X.K g v (.lst ys) → b = true := fun h1 h2 => same_true I sb (n + 1) e h1 h2
      cases rx with
      | lst h1 q1 =>
        cases ry with
        | lst h2 q2 =>
          cases (show v = Value.ref _ from r1)
          cases (show u = Value.ref _ from r2)
          obtain ⟨us, rv, t1, _⟩ := I.list (.of (sb _ _ h1))
          obtain ⟨zs, rz, t2, _⟩ := I.list (.of (sb _ _ h2))
          obtain ⟨f, hf, hb⟩ := step e q1 q2 rv rz
          refine refs ?_ fun z => ?_
          · by_cases hl : us.length = zs.length
            · have hj : ∀ j (h1 : j < us.toArray.size) (h2 : j < zs.toArray.size), SeqAt.EqAt A.in1 s us.toArray[j] zs.toArray[j] (f j) := fun j h1 h2 => by
                have := hf j (by simpa using h1) (by simpa using h2)
                simpa using this
              have k := SeqAt.RcAt.lists (e := f) t1.isList t2.isList (by simpa using hl) hu1 hj
              have kn := SeqAt.RcNeAt.lists (e := f) t1.isList t2.isList (by simpa using hl) hu1 hj
              have : b = (List.range us.toArray.size).all f := by
                rw [hb, ← hl, Nat.min_self]; simp
              rw [this]; exact ⟨k, kn⟩
            · have : b = false := by rw [hb]; simp [hl]
              rw [this]
              exact ⟨SeqAt.RcAt.lists_lengths t1.isList t2.isList (by simpa using hl) hu1, SeqAt.RcNeAt.lists_lengths t1.isList t2.isList (by simpa using hl) hu1⟩
          · subst z
            exact sm (.lst h1 q1) (.lst h2 q2)
    -- the mixed ones
    have tupO : ∀ {xs : List D} {w : V} {c : Value}, Rep X.K g w (.tup xs) → RelV w c → ∃ a its, c = .ref a ∧ s.heap.IsTuple a its := by
      intro xs w c r rc
      cases r with
      | tup h q =>
        cases (show c = Value.ref _ from rc)
        obtain ⟨us, _, t, _⟩ := I.tuple (sqT_mono sb h)
        exact ⟨_, _, rfl, t⟩
    have lstO : ∀ {xs : List D} {w : V} {c : Value}, Rep X.K g w (.lst xs) → RelV w c → ∃ a its, c = .ref a ∧ s.heap.IsList a its := by
      intro xs w c r rc
      cases r with
      | lst h q =>
        cases (show c = Value.ref _ from rc)
        obtain ⟨us, _, t, _⟩ := I.list (.of (sb _ _ h))
        exact ⟨_, _, rfl, t.isList⟩
    cases x <;> cases y <;> first
      | (cases e; done)
      | exact eqS_at e rx ry r1 r2
      | exact sT rfl rfl
      | exact sL rfl rfl
      | (cases e
         obtain ⟨a, i1, rfl, t1⟩ := tupO rx r1
         obtain ⟨b, i2, rfl, t2⟩ := lstO ry r2
         exact ⟨SeqAt.RcAt.tuple_list t1 t2 hu1, SeqAt.EqAt.tuple_list t1 t2 hu1, SeqAt.RcNeAt.tuple_list t1 t2 hu1⟩)
      | (cases e
         obtain ⟨a, i1, rfl, t1⟩ := lstO rx r1
         obtain ⟨b, i2, rfl, t2⟩ := tupO ry r2
         exact ⟨SeqAt.RcAt.list_tuple t1 t2 hu1, SeqAt.EqAt.list_tuple t1 t2 hu1, SeqAt.RcNeAt.list_tuple t1 t2 hu1⟩)
      | (cases e
         obtain ⟨a, i1, rfl, t1⟩ := tupO rx r1
         cases ry
         first
           | (cases r2; first | exact ⟨SeqAt.RcAt.tuple_none t1 hu1, SeqAt.EqAt.tuple_none t1 hu1, SeqAt.RcNeAt.tuple_none t1 hu1⟩ | exact ⟨SeqAt.RcAt.tuple_bool _ t1 hu1, SeqAt.EqAt.tuple_bool _ t1 hu1, SeqAt.RcNeAt.tuple_bool _ t1 hu1⟩)
           | (obtain ⟨t, rfl⟩ := r2; first | exact ⟨SeqAt.RcAt.tuple_int _ _ t1 hu1, SeqAt.EqAt.tuple_int _ _ t1 hu1, SeqAt.RcNeAt.tuple_int _ _ t1 hu1⟩ | exact ⟨SeqAt.RcAt.tuple_str _ _ t1 hu1, SeqAt.EqAt.tuple_str _ _ t1 hu1, SeqAt.RcNeAt.tuple_str _ _ t1 hu1⟩))
      | (cases e
         obtain ⟨a, i1, rfl, t1⟩ := lstO rx r1
         cases ry
         first
           | (cases r2; first | exact ⟨SeqAt.RcAt.list_none t1 hu1, SeqAt.EqAt.list_none t1 hu1, SeqAt.RcNeAt.list_none t1 hu1⟩ | exact ⟨SeqAt.RcAt.list_bool _ t1 hu1, SeqAt.EqAt.list_bool _ t1 hu1, SeqAt.RcNeAt.list_bool _ t1 hu1⟩)
           | (obtain ⟨t, rfl⟩ := r2; first | exact ⟨SeqAt.RcAt.list_int _ _ t1 hu1, SeqAt.EqAt.list_int _ _ t1 hu1, SeqAt.RcNeAt.list_int _ _ t1 hu1⟩ | exact ⟨SeqAt.RcAt.list_str _ _ t1 hu1, SeqAt.EqAt.list_str _ _ t1 hu1, SeqAt.RcNeAt.list_str _ _ t1 hu1⟩))
      | (cases e
         obtain ⟨a, i1, rfl, t1⟩ := tupO ry r2
         cases rx
         first
           | (cases r1; first | exact ⟨SeqAt.RcAt.none_tuple t1 hu1, SeqAt.EqAt.none_tuple t1 hu1, SeqAt.RcNeAt.none_tuple t1 hu1⟩ | exact ⟨SeqAt.RcAt.bool_tuple _ t1 hu1, SeqAt.EqAt.bool_tuple _ t1 hu1, SeqAt.RcNeAt.bool_tuple _ t1 hu1⟩)
           | (obtain ⟨t, rfl⟩ := r1; first | exact ⟨SeqAt.RcAt.int_tuple _ _ t1 hu1, SeqAt.EqAt.int_tuple _ _ t1 hu1, SeqAt.RcNeAt.int_tuple _ _ t1 hu1⟩ | exact ⟨SeqAt.RcAt.str_tuple _ _ t1 hu1, SeqAt.EqAt.str_tuple _ _ t1 hu1, SeqAt.RcNeAt.str_tuple _ _ t1 hu1⟩))
      | (cases e
         obtain ⟨a, i1, rfl, t1⟩ := lstO ry r2
         cases rx
         first
           | (cases r1; first | exact ⟨SeqAt.RcAt.none_list t1 hu1, SeqAt.EqAt.none_list t1 hu1, SeqAt.RcNeAt.none_list t1 hu1⟩ | exact ⟨SeqAt.RcAt.bool_list _ t1 hu1, SeqAt.EqAt.bool_list _ t1 hu1, SeqAt.RcNeAt.bool_list _ t1 hu1⟩)
           | (obtain ⟨t, rfl⟩ := r1; first | exact ⟨SeqAt.RcAt.int_list _ _ t1 hu1, SeqAt.EqAt.int_list _ _ t1 hu1, SeqAt.RcNeAt.int_list _ _ t1 hu1⟩ | exact ⟨SeqAt.RcAt.str_list _ _ t1 hu1, SeqAt.EqAt.str_list _ _ t1 hu1, SeqAt.RcNeAt.str_list _ _ t1 hu1⟩))
end

section
variable {X : Cx} {W : WX}
def rEqM (K : PySem.W.Frag) (neg : Bool) : R2 := fun x y H Q => ∃ g dx dy b, Sub g.F H ∧ Rep K g x dx ∧ Rep K g y dy ∧ eqvO 40 dx dy = some b ∧ Q (.bl (b != neg)) H
theorem op_neM (hu : X.A.units + 64 < cLine) : OpR X (compareOp .NotEq) (rEqM X.K true) := by
  intro pins s σ H x y v u Q I rx ry ⟨g, dx, dy, b, sb, h1, h2, e, q⟩
  refine (eqvO_at I sb 40 (A := X.A) (by omega) e h1 h2 rx ry).2.2 X.prog X.w X.xe _ ⟨.bl (!b), H, I, rfl, ?_⟩
  have : (b != true) = !b := by cases b <;> rfl
  rw [this] at q; exact q
theorem op_eqM (hu : X.A.units + 64 < cLine) : OpR X (compareOp .Eq) (rEqM X.K false) := by
  intro pins s σ H x y v u Q I rx ry ⟨g, dx, dy, b, sb, h1, h2, e, q⟩
  refine (eqvO_at I sb 40 (A := X.A) (by omega) e h1 h2 rx ry).1 X.prog X.w X.xe _ ⟨.bl b, H, I, rfl, ?_⟩
  have : (b != false) = b := by cases b <;> rfl
  rw [this] at q; exact q
end
end MI
/-! # Comparisons as expressions and tests; and, or, not; a if t else b -/
namespace MI
open PySem L2

section
variable {X : Cx} {W : WX}
def opEq (neg : Bool) : S → RV → RV → Res RV := fun s a b => match asD s a, asD s b with
  | some x, some y => match eqvO 40 x y with
    | some r => .ok (.d (.bl (r != neg))) s
    | none => .stuck
  | _, _ => .stuck
theorem os_eq {neg : Bool} : OpS X W (rEqM X.K neg) (opEq neg) := by
  intro σ g s H Q x y ra rb ok rx ry nn q
  unfold opEq at q
  split at q
  · rename_i dx dy e1 e2
    split at q
    · rename_i r e
      obtain ⟨g1, l1, sb1, r1⟩ := asD_ok ok (GLe.refl g) ok.sub rx e1
      obtain ⟨g2, l2, sb2, r2⟩ := asD_ok ok l1 sb1 ry e2
      exact ⟨g2, dx, dy, r, sb2, r1.mono l2, r2, e, kE_d q ok (.bl _)⟩
    · exact q.elim
  · exact q.elim
/-! ### <, <=, >, >= of ints and texts -/
def fS (f : Str → Str → Bool) : S → RV → RV → Res RV := fun s a b => match asStr a, asStr b with
  | some x, some y => .ok (.d (.bl (f x y))) s
  | _, _ => .stuck
theorem fS_ok {f : Str → Str → Bool} : OpS X W (fun x y H Q => ∃ i j, x = .str i ∧ y = .str j ∧ Q (.bl (f i j)) H) (fS f) := by
  intro σ g s H Q x y ra rb ok rx ry nn q
  unfold fS at q
  split at q
  · rename_i i j e1 e2
    exact ⟨i, j, asStr_ok rx e1, asStr_ok ry e2, kE_d q ok (.bl _)⟩
  · exact q.elim
theorem fI0_ok {f : Int → Int → Bool} : OpS X W (rI0 fun i j => .bl (f i j)) (fI cT fun i j => .bl (f i j)) :=
  fun σ g s H Q x y ra rb ok rx ry nn q => rI0_of (fI_ok (C' := fun _ _ => True) (fun _ _ _ => trivial) (fun _ _ i j => .bl _) σ g s H Q x y ra rb ok rx ry nn q)
def strLt (x y : Str) : Bool := decide (x.cps.toList < y.cps.toList)
def opLt := orF (fI cT fun i j => .bl (decide (i < j))) (fS fun x y => strLt x y)
def opLe := orF (fI cT fun i j => .bl (decide (i ≤ j))) (fS fun x y => !strLt y x)
def opGt := orF (fI cT fun i j => .bl (decide (j < i))) (fS fun x y => strLt y x)
def opGe := orF (fI cT fun i j => .bl (decide (j ≤ i))) (fS fun x y => !strLt x y)
/-! ### in, not in, by == of data -/
def anyO (f : D → Option Bool) : List D → Option Bool
  | [] => some false
  | x :: xs => match f x, anyO f xs with
    | some a, some b => some (a || b)
    | _, _ => none
def asItems (s : S) (r : RV) : Option (List D) := match asTup r with
  | some xs => some xs
  | none => asLst s r
def opIn (neg : Bool) : S → RV → RV → Res RV := fun s a b => match asD s a, asItems s b with
  | some x, some ys => match anyO (fun y => eqvO 40 y x) ys with
    | some r => .ok (.d (.bl (r != neg))) s
    | none => .stuck
  | _, _ => .stuck
def rInM (K : PySem.W.Frag) (neg : Bool) : R2 := fun x y H Q => ∃ g a vs dx ys b, Sub g.F H ∧ y = .ref a ∧ (SqL K H a vs ∨ SqT K H a vs) ∧ Rep K g x dx ∧ RepL K g vs ys ∧ anyO (fun y => eqvO 40 y dx) ys = some b ∧ Q (.bl (b != neg)) H
end
section
variable {X : Cx} {pins : List (Addr × Obj)} {σ : St} {g : G} {H : Hp} {s : Shared}
theorem eqvO_fun (I : Inv X pins σ H s) (sb : Sub g.F H) : ∀ (n : Nat) {x x' y : D} {b b' : Bool} {v : V}, eqvO n x y = some b → eqvO n x' y = some b' → Rep X.K g v x → Rep X.K g v x' → b = b' := by
  have sc : ∀ {x x' : D} {v : V}, (∀ xs, x ≠ .tup xs) → (∀ xs, x ≠ .lst xs) → (∀ n, x ≠ .ref n) → (∀ kvs, x ≠ .dic kvs) → (∀ kvs, x ≠ .scr kvs) → Rep X.K g v x → Rep X.K g v x' → x = x' := by
    intro x x' v h1 h2 h3 h4 h5 r r'
    cases r with
    | non => cases r'; rfl
    | bl b => cases r'; rfl
    | int i => cases r'; rfl
    | str x => cases r'; rfl
    | tup _ _ => exact absurd rfl (h1 _)
    | lst _ _ => exact absurd rfl (h2 _)
    | dic _ _ => exact absurd rfl (h4 _)
    | ref n _ => exact absurd rfl (h3 _)
    | scr _ _ => exact absurd rfl (h5 _)
  have all : ∀ {f : D → D → Option Bool}, (∀ {x x' y : D} {b b' : Bool} {v : V}, f x y = some b → f x' y = some b' → Rep X.K g v x → Rep X.K g v x' → b = b') →
      ∀ {xs xs' ys : List D} {b b' : Bool} {vs : List V}, eqAll f xs ys = some b → eqAll f xs' ys = some b' → RepL X.K g vs xs → RepL X.K g vs xs' → b = b' := by
    intro f ih xs
    induction xs with
    | nil =>
      intro xs' ys b b' vs e e' r1 r2
      cases r1; cases r2
      rw [e] at e'; cases e'; rfl
    | cons x xs ihx =>
      intro xs' ys b b' vs e e' r1 r2
      cases r1 with
      | cons a1 b1 =>
        cases r2 with
        | cons a2 b2 =>
          cases ys with
          | nil => cases e; cases e'; rfl
          | cons y ys =>
            simp only [eqAll] at e e'
            split at e
            · rename_i p q e1 e2
              split at e'
              · rename_i p' q' e1' e2'
                cases e; cases e'
                rw [ih e1 e1' a1 a2, ihx e2 e2' b1 b2]
              · cases e'
            · cases e
  intro n
  induction n with
  | zero =>
    intro x x' y b b' v e e' r r'
    have := sc (x := x) (x' := x') (fun xs z => by subst z; cases y <;> cases e) (fun xs z => by subst z; cases y <;> cases e) (fun xs z => by subst z; cases y <;> cases e) (fun xs z => by subst z; cases y <;> cases e) (fun xs z => by subst z; cases y <;> cases e) r r'
    subst this
    rw [e] at e'; cases e'; rfl
  | succ n ih =>
    intro x x' y b b' v e e' r r'
    cases x with
    | tup xs =>
      cases r with
      | tup h1 r1 =>
        cases r' with
        | tup h2 r2 =>
          have z := I.tuple_inj (sqT_mono sb h1) (sqT_mono sb h2)
          subst z
          cases y with
          | tup ys => exact all (f := eqvO n) ih (show eqAll (eqvO n) _ _ = some b from e) (show eqAll (eqvO n) _ _ = some b' from e') r1 r2
          | dic _ => cases e
          | ref _ => cases e
          | scr _ => cases e
          | _ => cases e; cases e'; rfl
        | lst h2 r2 => exact (tup_not_lst I (sqT_mono sb h1) (sb _ _ h2)).elim
        | dic h2 r2 => cases y <;> cases e'
        | ref n _ => cases y <;> cases e'
        | scr _ _ => cases y <;> cases e'
    | lst xs =>
      cases r with
      | lst h1 r1 =>
        cases r' with
        | lst h2 r2 =>
          have z := (sb _ _ h1).symm.trans (sb _ _ h2)
          cases z
          cases y with
          | lst ys => exact all (f := eqvO n) ih (show eqAll (eqvO n) _ _ = some b from e) (show eqAll (eqvO n) _ _ = some b' from e') r1 r2
          | dic _ => cases e
          | ref _ => cases e
          | scr _ => cases e
          | _ => cases e; cases e'; rfl
        | tup h2 r2 => exact (tup_not_lst I (sqT_mono sb h2) (sb _ _ h1)).elim
        | dic h2 r2 => cases y <;> cases e'
        | ref n _ => cases y <;> cases e'
        | scr _ _ => cases y <;> cases e'
    | dic _ => cases y <;> cases e
    | ref _ => cases y <;> cases e
    | scr _ => cases y <;> cases e
    | _ =>
      have := sc (x' := x') (fun xs z => by cases z) (fun xs z => by cases z) (fun xs z => by cases z) (fun xs z => by cases z) (fun xs z => by cases z) r r'
      subst this
      rw [e] at e'; cases e'; rfl
theorem any_at (I : Inv X pins σ H s) (sb : Sub g.F H) {A : Around} (hu : A.units + 40 < cLine) {dx : D} {vx : V} {v : Value} (rx : Rep X.K g vx dx) (rv : RelV vx v) :
    ∀ {ys : List D} {b : Bool} {vs : List V} {us : List Value}, anyO (fun y => eqvO 40 y dx) ys = some b → RepL X.K g vs ys → Vals vs us →
      ∃ e : Value → Bool, (∀ u ∈ us, SeqAt.EqAt A s u v (e u)) ∧ b = us.any e := by
  classical
  -- a value's answer by the value alone
  let e : Value → Bool := fun u => decide (∃ w d, RelV w u ∧ Rep X.K g w d ∧ eqvO 40 d dx = some true)
  have he : ∀ {u : Value} {w : V} {d : D} {k : Bool}, RelV w u → Rep X.K g w d → eqvO 40 d dx = some k → e u = k := by
    intro u w d k r1 r2 q
    cases k with
    | true => exact decide_eq_true ⟨w, d, r1, r2, q⟩
    | false =>
      refine decide_eq_false fun ⟨w', d', r1', r2', q'⟩ => ?_
      cases r1.inj r1'
      cases eqvO_fun I sb 40 q q' r2 r2'
  suffices key : ∀ {ys : List D} {b : Bool} {vs : List V} {us : List Value}, anyO (fun y => eqvO 40 y dx) ys = some b → RepL X.K g vs ys → Vals vs us →
      (∀ u ∈ us, SeqAt.EqAt A s u v (e u)) ∧ b = us.any e by
    intro ys b vs us h r1 r2
    exact ⟨e, key h r1 r2⟩
  intro ys
  induction ys with
  | nil =>
    intro b vs us h r1 r2
    cases r1; cases r2; cases h
    exact ⟨(fun u hu => nomatch hu), rfl⟩
  | cons y ys ih =>
    intro b vs us h r1 r2
    cases r1 with
    | cons a1 b1 =>
      cases r2 with
      | cons c1 d1 =>
        simp only [anyO] at h
        split at h
        · rename_i p q e1 e2
          cases h
          obtain ⟨i1, i2⟩ := ih e2 b1 d1
          have z := (eqvO_at I sb 40 (A := A) hu e1 a1 rx c1 rv).2.1
          have ze := he c1 a1 e1
          refine ⟨fun u hu => ?_, ?_⟩
          · rcases List.mem_cons.mp hu with rfl | hu
            · rw [ze]; exact z
            · exact i1 u hu
          · rw [List.any_cons, ze, ← i2]
        · cases h
end
section
variable {X : Cx} {W : WX}
theorem op_inM (hu : X.A.units + 64 < cLine) : OpR X (compareOp .In) (rInM X.K false) := by
  intro pins s σ H x y v u Q I rx ry ⟨g, a, vs, dx, ys, b, sb, hy, hq, r1, r2, e, q⟩
  subst hy
  cases (show u = Value.ref a from ry)
  have q' : Q (.bl b) H := by
    have : (b != false) = b := by cases b <;> rfl
    rw [this] at q; exact q
  have hu' : X.A.in1.units + 40 < cLine := by show X.A.units + 1 + 40 < cLine; omega
  rcases hq with hq | hq
  · obtain ⟨its, r, pl, hz⟩ := I.list hq
    obtain ⟨f, hf, hb⟩ := any_at I sb hu' r1 rx e r2 r
    refine SeqAt.in_listAt f pl.isList (fun w hw => hf w (by simpa using hw)) ⟨.bl b, H, I, ?_, q'⟩
    show Value.bool _ = _
    rw [hb]; simp
  · obtain ⟨its, r, pl, hz⟩ := I.tuple hq
    obtain ⟨f, hf, hb⟩ := any_at I sb hu' r1 rx e r2 r
    refine SeqAt.in_tupleAt f pl (fun w hw => hf w (by simpa using hw)) ⟨.bl b, H, I, ?_, q'⟩
    show Value.bool _ = _
    rw [hb]; simp
theorem op_notInM (hu : X.A.units + 64 < cLine) : OpR X (compareOp .NotIn) (rInM X.K true) := by
  intro pins s σ H x y v u Q I rx ry ⟨g, a, vs, dx, ys, b, sb, hy, hq, r1, r2, e, q⟩
  subst hy
  cases (show u = Value.ref a from ry)
  have q' : Q (.bl (!b)) H := by
    have : (b != true) = !b := by cases b <;> rfl
    rw [this] at q; exact q
  have hu' : X.A.in1.units + 40 < cLine := by show X.A.units + 1 + 40 < cLine; omega
  rcases hq with hq | hq
  · obtain ⟨its, r, pl, hz⟩ := I.list hq
    obtain ⟨f, hf, hb⟩ := any_at I sb hu' r1 rx e r2 r
    refine SeqAt.notIn_listAt f pl.isList (fun w hw => hf w (by simpa using hw)) ⟨.bl (!b), H, I, ?_, q'⟩
    show Value.bool _ = _
    rw [hb]; simp
  · obtain ⟨its, r, pl, hz⟩ := I.tuple hq
    obtain ⟨f, hf, hb⟩ := any_at I sb hu' r1 rx e r2 r
    refine SeqAt.notIn_tupleAt f pl (fun w hw => hf w (by simpa using hw)) ⟨.bl (!b), H, I, ?_, q'⟩
    show Value.bool _ = _
    rw [hb]; simp
theorem os_in {neg : Bool} : OpS X W (rInM X.K neg) (opIn neg) := by
  intro σ g s H Q x y ra rb ok rx ry nn q
  unfold opIn at q
  split at q
  · rename_i dx ys e1 e2
    split at q
    · rename_i r e
      obtain ⟨g1, l1, sb1, r1⟩ := asD_ok ok (GLe.refl g) ok.sub rx e1
      unfold asItems at e2
      split at e2
      · rename_i zs e3
        cases e2
        obtain ⟨a, vs, rfl, h, r2⟩ := asTup_ok ok ry e3
        exact ⟨g1, a, vs, dx, ys, r, sb1, rfl, .inr h, r1, r2.mono l1, e, kE_d q ok (.bl _)⟩
      · obtain ⟨a, vs, rfl, h, r2⟩ := asLst_ok ok ry e2
        exact ⟨g1, a, vs, dx, ys, r, sb1, rfl, .inl (.of h), r1, r2.mono l1, e, kE_d q ok (.bl _)⟩
    · exact q.elim
  · exact q.elim
variable {a b c : Expr} {ma mb mc : M} {pos : Pos}
theorem me_eq (hu : X.A.units + 64 < cLine) (ha : ME X W a ma) (hb : ME X W b mb) : ME X W (.Compare a [.Eq] [b] pos) (mBin (opEq false) ma mb) := me_cmp (op_eqM hu) os_eq ha hb (nomark _)
theorem me_ne (hu : X.A.units + 64 < cLine) (ha : ME X W a ma) (hb : ME X W b mb) : ME X W (.Compare a [.NotEq] [b] pos) (mBin (opEq true) ma mb) := me_cmp (op_neM hu) os_eq ha hb (nomark _)
theorem or_lt : OpR X (compareOp .Lt) (fun x y H Q => rI0 (fun i j => .bl (decide (i < j))) x y H Q ∨ ∃ i j, x = .str i ∧ y = .str j ∧ Q (.bl (strLt i j)) H) := op_lt.or op_lt_str
theorem or_le : OpR X (compareOp .LtE) (fun x y H Q => rI0 (fun i j => .bl (decide (i ≤ j))) x y H Q ∨ ∃ i j, x = .str i ∧ y = .str j ∧ Q (.bl (!strLt j i)) H) := op_le.or op_le_str
theorem or_gt : OpR X (compareOp .Gt) (fun x y H Q => rI0 (fun i j => .bl (decide (j < i))) x y H Q ∨ ∃ i j, x = .str i ∧ y = .str j ∧ Q (.bl (strLt j i)) H) := op_gt.or op_gt_str
theorem or_ge : OpR X (compareOp .GtE) (fun x y H Q => rI0 (fun i j => .bl (decide (j ≤ i))) x y H Q ∨ ∃ i j, x = .str i ∧ y = .str j ∧ Q (.bl (!strLt i j)) H) := op_ge.or op_ge_str
theorem os_lt : OpS X W (fun x y H Q => rI0 (fun i j => .bl (decide (i < j))) x y H Q ∨ ∃ i j, x = .str i ∧ y = .str j ∧ Q (.bl (strLt i j)) H) opLt := fI0_ok.or fS_ok
theorem os_le : OpS X W (fun x y H Q => rI0 (fun i j => .bl (decide (i ≤ j))) x y H Q ∨ ∃ i j, x = .str i ∧ y = .str j ∧ Q (.bl (!strLt j i)) H) opLe := fI0_ok.or fS_ok
theorem os_gt : OpS X W (fun x y H Q => rI0 (fun i j => .bl (decide (j < i))) x y H Q ∨ ∃ i j, x = .str i ∧ y = .str j ∧ Q (.bl (strLt j i)) H) opGt := fI0_ok.or fS_ok
theorem os_ge : OpS X W (fun x y H Q => rI0 (fun i j => .bl (decide (j ≤ i))) x y H Q ∨ ∃ i j, x = .str i ∧ y = .str j ∧ Q (.bl (!strLt i j)) H) opGe := fI0_ok.or fS_ok
theorem me_lt (ha : ME X W a ma) (hb : ME X W b mb) : ME X W (.Compare a [.Lt] [b] pos) (mBin opLt ma mb) := me_cmp or_lt os_lt ha hb (nomark _)
theorem me_le (ha : ME X W a ma) (hb : ME X W b mb) : ME X W (.Compare a [.LtE] [b] pos) (mBin opLe ma mb) := me_cmp or_le os_le ha hb (nomark _)
theorem me_gt (ha : ME X W a ma) (hb : ME X W b mb) : ME X W (.Compare a [.Gt] [b] pos) (mBin opGt ma mb) := me_cmp or_gt os_gt ha hb (nomark _)
theorem me_ge (ha : ME X W a ma) (hb : ME X W b mb) : ME X W (.Compare a [.GtE] [b] pos) (mBin opGe ma mb) := me_cmp or_ge os_ge ha hb (nomark _)
theorem me_in (hu : X.A.units + 64 < cLine) (ha : ME X W a ma) (hb : ME X W b mb) (hm : behindInMarks .In b = false) : ME X W (.Compare a [.In] [b] pos) (mBin (opIn false) ma mb) := me_cmp (op_inM hu) os_in ha hb hm
theorem me_notIn (hu : X.A.units + 64 < cLine) (ha : ME X W a ma) (hb : ME X W b mb) (hm : behindInMarks .NotIn b = false) : ME X W (.Compare a [.NotIn] [b] pos) (mBin (opIn true) ma mb) := me_cmp (op_notInM hu) os_in ha hb hm
/-! ### is None -/
def isNonRV : RV → Bool
  | .d .non => true
  | _ => false
def opIsN (neg : Bool) : S → RV → RV → Res RV := fun s a b => match b with
  | .d .non => .ok (.d (.bl (isNonRV a != neg))) s
  | _ => .stuck
theorem isN_dec {K : PySem.W.Frag} {g : G} {s : S} {H : Hp} {x : V} {ra : RV} (h : RepRV K g s H x ra) : decide (x = .non) = isNonRV ra := by
  cases ra with
  | d y => cases (show Rep K g x y from h) <;> rfl
  | «at» i => cases (show x = _ from h); rfl
  | new o => obtain ⟨a, rfl, _⟩ := h; rfl
theorem os_isN : OpS X W (fun x y H Q => y = .non ∧ Q (.bl (decide (x = .non))) H) (opIsN false) := by
  intro σ g s H Q x y ra rb ok rx ry nn q
  unfold opIsN at q
  split at q
  · cases (show Rep _ _ _ _ from ry)
    refine ⟨rfl, ?_⟩
    rw [isN_dec rx]
    have : ∀ k : Bool, (k != false) = k := fun k => by cases k <;> rfl
    rw [this] at q
    exact kE_d q ok (.bl _)
  · exact q.elim
theorem os_notN : OpS X W (fun x y H Q => y = .non ∧ Q (.bl (!decide (x = .non))) H) (opIsN true) := by
  intro σ g s H Q x y ra rb ok rx ry nn q
  unfold opIsN at q
  split at q
  · cases (show Rep _ _ _ _ from ry)
    refine ⟨rfl, ?_⟩
    rw [isN_dec rx]
    have : ∀ k : Bool, (k != true) = !k := fun k => by cases k <;> rfl
    rw [this] at q
    exact kE_d q ok (.bl _)
  · exact q.elim
theorem me_isN {j p} (ha : ME X W a ma) : ME X W (.Compare a [.Is] [.Constant .none j p] pos) (mBin (opIsN false) ma (mC .non)) := me_cmp op_isN os_isN ha me_non (nomark _)
theorem me_notN {j p} (ha : ME X W a ma) : ME X W (.Compare a [.IsNot] [.Constant .none j p] pos) (mBin (opIsN true) ma (mC .non)) := me_cmp op_notN os_notN ha me_non (nomark _)
end
end MI
/-! # Tests: truth, and, or, not; a if t else b; chains -/
namespace MI
open PySem L2

def truthD : D → Option Bool
  | .non => some false
  | .bl b => some b
  | .int i => some (i != 0)
  | .str x => if x.length ≤ sizeLine then some ((x.length : Int) != 0) else none
  | .tup xs => some (!xs.isEmpty)
  | .lst xs => some (!xs.isEmpty)
  | .dic xs => some (!xs.isEmpty)
  | .ref _ => none
  | .scr xs => some (!xs.isEmpty)
def mTru (m : M) : S → Res Bool := fun s => (m s).bind fun r s1 => match (asD s1 r).bind truthD with
  | some b => .ok b s1
  | none => .stuck
def mNotT (m : S → Res Bool) : S → Res Bool := fun s => (m s).bind fun b s1 => .ok (!b) s1
def mAndT (a b : S → Res Bool) : S → Res Bool := fun s => (a s).bind fun c s1 => if c = true then b s1 else .ok false s1
def mOrT (a b : S → Res Bool) : S → Res Bool := fun s => (a s).bind fun c s1 => if c = true then .ok true s1 else b s1
/-- a test's answer as a value -/
def mVal (m : S → Res Bool) : M := fun s => (m s).bind fun b s1 => .ok (.d (.bl b)) s1
def mIf (t : S → Res Bool) (a b : M) : M := fun s => (t s).bind fun c s1 => if c = true then a s1 else b s1
/-- a bool alone -/
def mBl (m : M) : S → Res Bool := fun s => (m s).bind fun r s1 => match r with
  | .d (.bl b) => .ok b s1
  | _ => .stuck
section
variable {K : PySem.W.Frag} {W : WX} {σ : St} {g : G} {s : S} {H : Hp}
theorem isEmpty_L {vs : List V} {ds : List D} (r : RepL K g vs ds) : vs.isEmpty = ds.isEmpty := by cases r <;> rfl
theorem isEmpty_K {vs : List (Key × V)} {ds : List (Key × D)} (r : RepK K g vs ds) : vs.isEmpty = ds.isEmpty := by cases r <;> rfl
theorem truth_ok {v : V} {r : RV} {b : Bool} (ok : Ok K g s σ H) (h : RepRV K g s H v r) (e : (asD s r).bind truthD = some b) : TruV K v H b := by
  cases e1 : asD s r with
  | none => rw [e1] at e; cases e
  | some d =>
    rw [e1] at e
    have e2 : truthD d = some b := e
    obtain ⟨g1, l, sb, rp⟩ := asD_ok ok (GLe.refl g) ok.sub h e1
    cases rp with
    | non => cases e2; rfl
    | bl c => cases e2; rfl
    | int i => cases e2; rfl
    | str x =>
      simp only [truthD] at e2
      split at e2
      · rename_i hl
        cases e2
        exact ⟨hl, rfl⟩
      · cases e2
    | tup h1 r1 => cases e2; exact .inr (.inl ⟨_, sqT_mono sb h1, by rw [isEmpty_L r1]⟩)
    | lst h1 r1 => cases e2; exact .inl ⟨_, .of (sb _ _ h1), by rw [isEmpty_L r1]⟩
    | dic h1 r1 => cases e2; exact .inr (.inr ⟨_, sb _ _ h1, by rw [isEmpty_K r1]⟩)
    | ref n hn => cases e2
    | scr h1 r1 => cases e2; exact .inl ⟨_, sqL_mono sb h1, by rw [isEmpty_L r1]⟩
end
section
variable {X : Cx} {W : WX} {a b c : Expr} {ma mb mc : M} {ta tb : S → Res Bool} {pos : Pos} {rest : List Expr}
theorem mt_val (ha : ME X W a ma) (he : ∀ whole, isTrue a X.env whole = (do let v ← whole; standAt a.pos; holding [v] (truthy v)) := by intro _; rfl) : MT X W a (mTru ma) := by
  refine pt_imp (pt_truth ha he) fun σ H Q ⟨g, s, ok, h⟩ => ?_
  refine ⟨g, s, ok, (PostE.bind h).mono fun r g1 s1 H1 t1 k1 o1 h1 v rv => ?_⟩
  cases e : (asD s1 r).bind truthD with
  | none => rw [e] at h1; exact h1.elim
  | some k => rw [e] at h1; exact ⟨k, truth_ok o1 rv e, PostE.done h1 o1⟩
/-- a comparison (or what else is a bool) as a test -/
theorem mt_cmp {op : CmpOp} {r : R2} {f : S → RV → RV → Res RV} (ho : OpR X (compareOp op) r) (hs : OpS X W r f) (ha : ME X W a ma) (hb : ME X W b mb) (hm : behindInMarks op b = false) : MT X W (.Compare a [op] [b] pos) (mBl (mBin f ma mb)) := by
  refine pt_imp (pt_cmpR ho ha hb hm) fun σ H Q ⟨g, s, ok, h⟩ => ?_
  show tOp r (tM X.K W ma) (tM X.K W mb) σ H _
  refine tOp_of hs ok ((PostE.bind h).mono fun r g1 s1 H1 t1 k1 o1 h1 v rv => ?_)
  split at h1
  · rename_i k
    cases (show Rep _ _ _ _ from rv)
    exact ⟨k, rfl, PostE.done h1 o1⟩
  · exact h1.elim
theorem mt_not (ha : MT X W a ta) : MT X W (.UnaryOp .Not a pos) (mNotT ta) := by
  refine pt_imp (L2.pt_not ha) fun σ H Q ⟨g, s, ok, h⟩ => ?_
  exact ⟨g, s, ok, (PostE.bind h).mono fun b g1 s1 H1 t1 k1 o1 h1 => PostE.done (W := W) h1 o1⟩
def MW (X : Cx) (W : WX) (e : Expr) (m : S → Res Bool) : Prop := PW X e (tMT X.K W m)
theorem pw_imp {e : Expr} {t t' : TT} (h : PW X e t) (i : ∀ σ H Q, t' σ H Q → t σ H Q) : PW X e t' :=
  ⟨fun wh pins s σ H Q I q => h.run wh pins s σ H Q I (i σ H Q q)⟩
theorem mw_and1 (ha : MT X W a ta) : MW X W (.BoolOp .And [a] pos) ta := pw_and1 ha
theorem mw_or1 (ha : MT X W a ta) : MW X W (.BoolOp .Or [a] pos) ta := pw_or1 ha
theorem mw_and (ha : MT X W a ta) (hb : MW X W (.BoolOp .And (b :: rest) pos) tb) : MW X W (.BoolOp .And (a :: b :: rest) pos) (mAndT ta tb) := by
  refine pw_imp (pw_and ha hb) fun σ H Q ⟨g, s, ok, h⟩ => ?_
  refine ⟨g, s, ok, (PostE.bind h).mono fun c g1 s1 H1 t1 k1 o1 h1 => ?_⟩
  cases c with
  | true => rw [if_pos rfl] at h1; show (if true = true then _ else _); rw [if_pos rfl]; exact ⟨g1, s1, o1, h1⟩
  | false => rw [if_neg (by decide)] at h1; show (if false = true then _ else _); rw [if_neg (by decide)]; exact PostE.done h1 o1
theorem mw_or (ha : MT X W a ta) (hb : MW X W (.BoolOp .Or (b :: rest) pos) tb) : MW X W (.BoolOp .Or (a :: b :: rest) pos) (mOrT ta tb) := by
  refine pw_imp (pw_or ha hb) fun σ H Q ⟨g, s, ok, h⟩ => ?_
  refine ⟨g, s, ok, (PostE.bind h).mono fun c g1 s1 H1 t1 k1 o1 h1 => ?_⟩
  cases c with
  | true => rw [if_pos rfl] at h1; show (if true = true then _ else _); rw [if_pos rfl]; exact PostE.done h1 o1
  | false => rw [if_neg (by decide)] at h1; show (if false = true then _ else _); rw [if_neg (by decide)]; exact ⟨g1, s1, o1, h1⟩
theorem mt_w (h : MW X W a ta) : MT X W a ta := PW.pt h
/-! ### and, or, not as values: of bools -/
def mAndV (a b : M) : M := fun s => (a s).bind fun r s1 => match r with
  | .d (.bl c) => if c = true then b s1 else .ok (.d (.bl false)) s1
  | _ => .stuck
def mOrV (a b : M) : M := fun s => (a s).bind fun r s1 => match r with
  | .d (.bl c) => if c = true then .ok (.d (.bl true)) s1 else b s1
  | _ => .stuck
def mNotV (a : M) : M := fun s => (a s).bind fun r s1 => match r with
  | .d (.bl c) => .ok (.d (.bl (!c))) s1
  | _ => .stuck
/-- not of a value, by its truth -/
def mNotVT (a : M) : M := mVal (mNotT (mTru a))
theorem me_one {op} (ha : ME X W a ma) : ME X W (.BoolOp op [a] pos) ma := pe_one ha
theorem me_and (ha : ME X W a ma) (hb : ME X W (.BoolOp .And (b :: rest) pos) mb) : ME X W (.BoolOp .And (a :: b :: rest) pos) (mAndV ma mb) := by
  refine pe_imp (pe_and ha hb) fun σ H Q ⟨g, s, ok, h⟩ => ?_
  refine ⟨g, s, ok, (PostE.bind h).mono fun r g1 s1 H1 t1 k1 o1 h1 v rv => ?_⟩
  split at h1
  · rename_i c
    cases (show Rep _ _ _ _ from rv)
    refine ⟨c, rfl, ?_⟩
    cases c with
    | true => rw [if_pos rfl] at h1; rw [if_pos rfl]; exact ⟨g1, s1, o1, h1⟩
    | false => rw [if_neg (by decide)] at h1; rw [if_neg (by decide)]; exact kE_d h1 o1 (.bl _)
  · exact h1.elim
theorem me_or (ha : ME X W a ma) (hb : ME X W (.BoolOp .Or (b :: rest) pos) mb) : ME X W (.BoolOp .Or (a :: b :: rest) pos) (mOrV ma mb) := by
  refine pe_imp (pe_or ha hb) fun σ H Q ⟨g, s, ok, h⟩ => ?_
  refine ⟨g, s, ok, (PostE.bind h).mono fun r g1 s1 H1 t1 k1 o1 h1 v rv => ?_⟩
  split at h1
  · rename_i c
    cases (show Rep _ _ _ _ from rv)
    refine ⟨c, rfl, ?_⟩
    cases c with
    | true => rw [if_pos rfl] at h1; rw [if_pos rfl]; exact kE_d h1 o1 (.bl _)
    | false => rw [if_neg (by decide)] at h1; rw [if_neg (by decide)]; exact ⟨g1, s1, o1, h1⟩
  · exact h1.elim
theorem me_not (ha : ME X W a ma) : ME X W (.UnaryOp .Not a pos) (mNotV ma) := by
  refine pe_imp (pe_not ha) fun σ H Q ⟨g, s, ok, h⟩ => ?_
  refine ⟨g, s, ok, (PostE.bind h).mono fun r g1 s1 H1 t1 k1 o1 h1 v rv => ?_⟩
  split at h1
  · rename_i c
    cases (show Rep _ _ _ _ from rv)
    exact ⟨c, rfl, kE_d h1 o1 (.bl _)⟩
  · exact h1.elim
theorem me_if {t : S → Res Bool} (hc : MT X W c t) (ha : ME X W a ma) (hb : ME X W b mb) : ME X W (.IfExp c a b pos) (mIf t ma mb) := by
  refine pe_imp (pe_ifExp hc ha hb) fun σ H Q ⟨g, s, ok, h⟩ => ?_
  refine ⟨g, s, ok, (PostE.bind h).mono fun c g1 s1 H1 t1 k1 o1 h1 => ?_⟩
  cases c with
  | true => rw [if_pos rfl] at h1; show (if true = true then _ else _); rw [if_pos rfl]; exact ⟨g1, s1, o1, h1⟩
  | false => rw [if_neg (by decide)] at h1; show (if false = true then _ else _); rw [if_neg (by decide)]; exact ⟨g1, s1, o1, h1⟩
/-! ### a op b op' c -/
def mChain (f f' : S → RV → RV → Res RV) (a b c : M) : M := fun s => (mSettle a s).bind fun x s1 => (mSettle b s1).bind fun y s2 => (f s2 x y).bind fun z s3 => match z with
  | .d (.bl k) => if k = true then (c s3).bind fun w s4 => f' s4 y w else .ok (.d (.bl false)) s3
  | _ => .stuck
theorem tChain_of {r r' : R2} {f f' : S → RV → RV → Res RV} (hs : OpS X W r f) (hs' : OpS X W r' f') {σ : St} {H : Hp} {Q : VK} {g : G} {s : S} (ok : Ok X.K g s σ H)
    (h : PostE X.K W σ g s H (kE X.K Q) (mChain f f' ma mb mc s)) : tChain r r' (tM X.K W ma) (tM X.K W mb) (tM X.K W mc) σ H Q := by
  refine tM_settle ok (PostE.bind h) fun x g1 s1 H1 v t1 k1 o1 rv nn h1 => ?_
  refine tM_settle o1 (PostE.bind h1) fun y g2 s2 H2 u t2 k2 o2 ru nn2 h2 => ?_
  refine hs σ g2 s2 H2 _ v u x y o2 (rv.held nn t2 k2) ru nn ((PostE.bind h2).mono fun z g3 s3 H3 t3 k3 o3 h3 w rw' => ?_)
  split at h3
  · rename_i k
    cases (show Rep _ _ _ _ from rw')
    refine ⟨k, rfl, ?_⟩
    cases k with
    | true =>
      rw [if_pos rfl] at h3; rw [if_pos rfl]
      refine ⟨g3, s3, o3, (PostE.bind h3).mono fun q g4 s4 H4 t4 k4 o4 h4 w rw' => ?_⟩
      have ru3 : RepRV X.K g3 s3 H3 u y := ru.held nn2 t3 k3
      have ru4 : RepRV X.K g4 s4 H4 u y := ru3.held nn2 t4 k4
      exact hs' σ g4 s4 H4 Q u w y q o4 ru4 rw' nn2 h4
    | false => rw [if_neg (by decide)] at h3; rw [if_neg (by decide)]; exact kE_d h3 o3 (.bl _)
  · exact h3.elim
theorem me_chain {op op' : CmpOp} {r r' : R2} {f f' : S → RV → RV → Res RV} (ho : OpR X (compareOp op) r) (ho' : OpR X (compareOp op') r') (hs : OpS X W r f) (hs' : OpS X W r' f') (ha : ME X W a ma) (hb : ME X W b mb) (hc : ME X W c mc)
    (hm : lastMarks [op, op'] [b, c] = false := by with_unfolding_all rfl) : ME X W (.Compare a [op, op'] [b, c] pos) (mChain f f' ma mb mc) :=
  pe_imp (pe_chain ho ho' ha hb hc hm) fun _ _ _ ⟨_, _, ok, h⟩ => tChain_of hs hs' ok h
theorem mt_chain {op op' : CmpOp} {r r' : R2} {f f' : S → RV → RV → Res RV} (ho : OpR X (compareOp op) r) (ho' : OpR X (compareOp op') r') (hs : OpS X W r f) (hs' : OpS X W r' f') (ha : ME X W a ma) (hb : ME X W b mb) (hc : ME X W c mc)
    (hm : lastMarks [op, op'] [b, c] = false := by with_unfolding_all rfl) : MT X W (.Compare a [op, op'] [b, c] pos) (mBl (mChain f f' ma mb mc)) := by
  refine pt_imp (L2.pt_chain ho ho' ha hb hc hm) fun σ H Q ⟨g, s, ok, h⟩ => ?_
  refine tChain_of hs hs' ok ((PostE.bind h).mono fun r g1 s1 H1 t1 k1 o1 h1 v rv => ?_)
  split at h1
  · rename_i k
    cases (show Rep _ _ _ _ from rv)
    exact ⟨k, rfl, PostE.done h1 o1⟩
  · exact h1.elim
end
end MI
/-! # Argument lists, displays, own functions -/
namespace MI
open PySem PySem.Spec PyProof.Rows L2

def mANil : S → Res (List D) := fun s => .ok [] s
def mACons (a : M) (r : S → Res (List D)) : S → Res (List D) := fun s => (mLeak a s).bind fun d s1 => (r s1).bind fun ds s2 => .ok (d :: ds) s2
def mTup (m : S → Res (List D)) : M := fun s => (m s).bind fun ds s1 => if ds.length ≤ sizeLine then .ok (.d (.tup ds)) s1 else .stuck
def mLst (m : S → Res (List D)) : M := fun s => (m s).bind fun ds s1 => if ds.length ≤ sizeLine then .ok (.new (.lst ds)) s1 else .stuck

section
variable {K : PySem.W.Frag} {W : WX} {σ : L2.St} {g : G} {s : S} {H : Hp}
/-- the leaked reading of a part -/
theorem tM_leak {m : M} {Q : VK} {k : D → G → S → Hp → Prop} (ok : Ok K g s σ H)
    (h : PostE K W σ g s H k (mLeak m s)) (q : ∀ d g' s' H' v, Step g H g' H' → SlKeep g g' → Ok K g' s' σ H' → Rep K g' v d → k d g' s' H' → Q v H') : tM K W m σ H Q := by
  refine ⟨g, s, ok, (PostE.bind h).mono fun r g1 s1 H1 t1 k1 o1 h1 v rv => ?_⟩
  cases e : leak r s1 with
  | none => rw [e] at h1; exact h1.elim
  | some p =>
    obtain ⟨d, s2⟩ := p
    rw [e] at h1
    obtain ⟨g2, t2, k2, o2, rv2⟩ := leak_ok o1 rv e
    exact q d g2 s2 H1 v (t1.trans t2) (k1.trans k2) o2 rv2 (h1 g2 H1 t2 k2 o2)
end
section
variable {X : Cx} {W : WX} {e : Expr} {es : List Expr} {me : M} {m : S → Res (List D)} {pos : Pos}
theorem ma_nil : MA X W [] mANil := pa_imp pa_nil fun σ H Q ⟨g, s, ok, h⟩ => PostE.done h ok _ .nil
theorem ma_cons (ha : ME X W e me) (hr : MA X W es m) (hs : starEach (e :: es) X.env = (false, eval e X.env) :: starEach es X.env := by rfl) : MA X W (e :: es) (mACons me m) := by
  refine pa_imp (pa_cons ha hr hs) fun σ H Q ⟨g, s, ok, h⟩ => ?_
  refine tM_leak ok (PostE.bind h) fun d g1 s1 H1 v t1 k1 o1 rv h1 => ?_
  refine ⟨g1, s1, o1, (PostE.bind h1).mono fun ds g2 s2 H2 t2 k2 o2 h2 vs rs => ?_⟩
  exact PostE.done h2 o2 _ (.cons (rv.mono t2.le) rs)
theorem me_tup {x1} (h : MA X W es m) : ME X W (.Tuple es x1 pos) (mTup m) := by
  refine pe_imp (pe_tup h) fun σ H Q ⟨g, s, ok, h⟩ => ?_
  refine ⟨g, s, ok, (PostE.bind h).mono fun ds g1 s1 H1 t1 k1 o1 h1 vs rs => ?_⟩
  split at h1
  · rename_i hl
    exact ⟨by rw [rs.length]; exact hl, fun p hp => kE_tup h1 o1 hp rs⟩
  · exact h1.elim
theorem me_lst (h : MA X W es m) : ME X W (.List es pos) (mLst m) := by
  refine pe_imp (pe_lst h) fun σ H Q ⟨g, s, ok, h⟩ => ?_
  refine ⟨g, s, ok, (PostE.bind h).mono fun ds g1 s1 H1 t1 k1 o1 h1 vs rs => ?_⟩
  split at h1
  · rename_i hl
    exact ⟨by rw [rs.length]; exact hl, fun p hp => kE_new h1 o1 hp ⟨_, upd_same, rs⟩⟩
  · exact h1.elim
/-- of two readings of one expression the one that is not stuck -/
def orM (a b : M) : M := fun s => match a s with
  | .stuck => b s
  | r => r
theorem pe_or2 {t t' : TE} (h : PE X e t) (h' : PE X e t') : PE X e (fun σ H Q => t σ H Q ∨ t' σ H Q) :=
  ⟨fun pins s σ H Q I q => q.elim (h.run pins s σ H Q I) (h'.run pins s σ H Q I)⟩
theorem me_alt {ma mb : M} (ha : ME X W e ma) (hb : ME X W e mb) : ME X W e (orM ma mb) := by
  refine pe_imp (pe_or2 ha hb) fun σ H Q ⟨g, s, ok, h⟩ => ?_
  unfold orM at h
  cases q : ma s with
  | ok a s' => simp only [q] at h; exact .inl ⟨g, s, ok, by rw [q]; exact h⟩
  | exc c p s' => simp only [q] at h; exact .inl ⟨g, s, ok, by rw [q]; exact h⟩
  | stuck => simp only [q] at h; exact .inr ⟨g, s, ok, h⟩
end

/-! ### own functions -/
inductive CRes where
  | ok (d : D) (gl : List MObj) | exc (c : Str) (p : D) (gl : List MObj) | stuck
abbrev Fm := List D → List MObj → CRes
/-- a function's promise, by its mirror -/
def spM (K : PySem.W.Frag) (f : Fm) : Sp := fun vs H Q E => ∃ g gl ds, Ok K g ⟨[], gl⟩ [] H ∧ RepL K g vs ds ∧ match f ds gl with
  | .ok d gl' => ∀ v g' H', Step g H g' H' → Ok K g' ⟨[], gl'⟩ [] H' → Rep K g' v d → Q v H'
  | .exc c p gl' => ∀ cls dd g' H', Step g H g' H' → Ok K g' ⟨[], gl'⟩ [] H' → ExcRep K g' H' cls dd c p → E cls dd H'
  | .stuck => False
/-- a def's body as a mirror: n parameters, N slots -/
def mDef (n N : Nat) (body : S → Res Out) : Fm := fun ds gl => if ds.length = n then (match body ⟨ds.map Slot.val ++ List.replicate (N - n) Slot.none, gl⟩ with
  | .ok (.rt d) s => .ok d s.gl
  | .ok .nx s => .ok .non s.gl
  | .ok _ _ => .stuck
  | .exc c p s => .exc c p s.gl
  | .stuck => .stuck) else .stuck
def mCall (f : Fm) (m : S → Res (List D)) : M := fun s => (m s).bind fun ds s1 => match f ds s1.gl with
  | .ok d gl => .ok (.d d) { s1 with gl := gl }
  | .exc c p gl => .exc c p { s1 with gl := gl }
  | .stuck => .stuck

section
variable {K : PySem.W.Frag} {W : WX} {σ : L2.St} {g : G} {s : S} {H : Hp}
/-- the ghost for a callee: all that is not the store's or unchanging is protected -/
def G.callee (g : G) (gl : List MObj) (H : Hp) : G := { g with P := fun a => (∃ u, H a = some u) ∧ g.F a = none ∧ ¬ ∃ n, n < gl.length ∧ g.adr (.gl n) = a }
theorem callee_le (g : G) (gl : List MObj) (H : Hp) : GLe g (g.callee gl H) := ⟨Sub.refl _, Nat.le_refl _, fun _ _ => rfl⟩
/-- the ghost behind it -/
def G.back (g g' : G) : G := { g' with P := g.P, adr := fun l => match l with
  | .sl i => g.adr (.sl i)
  | .gl n => g'.adr (.gl n) }
theorem cell_sl0 {s : S} {i : Nat} {o : MObj} (e : s.env[i]? = some (.own o)) : cellOf s (.sl i) = some o := by
  show (match s.env[i]? with | some (.own o) => some o | _ => none) = _
  rw [e]
theorem gl_cell {s : S} {n : Nat} {o : MObj} (e : cellOf s (.gl n) = some o) : n < s.gl.length := (List.getElem?_eq_some_iff.mp e).1
theorem live_gl {g : G} {gl : List MObj} {a : Addr} (l : Live g ⟨[], gl⟩ a) : ∃ n, n < gl.length ∧ g.adr (.gl n) = a := by
  obtain ⟨l, o, e, z⟩ := l
  cases l with
  | sl i => exact nomatch (show (none : Option MObj) = some o from e)
  | gl n => exact ⟨n, gl_cell (s := ⟨[], gl⟩) e, z⟩
theorem Ok.callee (ok : Ok K g s σ H) : Ok K (g.callee s.gl H) ⟨[], s.gl⟩ [] H where
  sub := ok.sub
  cell := fun l o e => by
    cases l with
    | sl i => exact nomatch (show (none : Option MObj) = some o from e)
    | gl n =>
      obtain ⟨f, r⟩ := ok.cell (.gl n) o e
      exact ⟨f, r.mono (callee_le g s.gl H) rfl⟩
  inj := fun l l' o o' e e' z => by
    cases l with
    | sl i => exact nomatch (show (none : Option MObj) = some o from e)
    | gl n =>
      cases l' with
      | sl i => exact nomatch (show (none : Option MObj) = some o' from e')
      | gl n' => exact ok.inj (.gl n) (.gl n') o o' e e' z
  env := fun i x e => nomatch e
  len := rfl
  ng := ok.ng
  prot := fun a ⟨h1, h2, h3⟩ => ⟨h1, h2, fun l => h3 (live_gl l)⟩
theorem back_le {g' : G} {H' : Hp} {gl : List MObj} (t : Step (g.callee gl H) H g' H') : GLe g (g.back g') := ⟨t.le.F, t.le.ng, t.le.adr⟩
theorem back_ge {g' : G} : GLe g' (g.back g') := ⟨Sub.refl _, Nat.le_refl _, fun _ _ => rfl⟩
theorem prot_callee {a : Addr} (ok : Ok K g s σ H) (p : g.P a) : (g.callee s.gl H).P a := by
  obtain ⟨h1, h2, h3⟩ := ok.prot a p
  refine ⟨h1, h2, fun ⟨n, hn, z⟩ => h3 ⟨.gl n, s.gl[n], ?_, z⟩⟩
  show s.gl[n]? = _
  simp [hn]
theorem Ok.back {g' : G} {H' : Hp} {gl' : List MObj} (ok : Ok K g s σ H) (t : Step (g.callee s.gl H) H g' H') (ok' : Ok K g' ⟨[], gl'⟩ [] H') :
    Step g H (g.back g') H' ∧ SlKeep g (g.back g') ∧ Ok K (g.back g') { s with gl := gl' } σ H' := by
  have P' : g'.P = (g.callee s.gl H).P := t.P
  have own : ∀ i o, s.env[i]? = some (.own o) → (g.callee s.gl H).P (g.adr (.sl i)) := by
    intro i o e
    have ce := cell_sl0 e
    obtain ⟨f, r⟩ := ok.cell _ _ ce
    refine ⟨r.some, f, fun ⟨n, hn, z⟩ => ?_⟩
    have cg : cellOf s (.gl n) = some s.gl[n] := by show s.gl[n]? = _; simp [hn]
    exact nomatch ok.inj _ _ _ _ cg ce z
  have slc : ∀ i o, cellOf { s with gl := gl' } (.sl i) = some o → s.env[i]? = some (.own o) := by
    intro i o e
    have e' : (match s.env[i]? with | some (.own o) => some o | _ => none) = some o := e
    split at e'
    · rename_i o' h
      cases e'
      exact h
    · cases e'
  have glc : ∀ n o, cellOf { s with gl := gl' } (.gl n) = some o → cellOf (⟨[], gl'⟩ : S) (.gl n) = some o := fun n o e => e
  refine ⟨⟨back_le t, rfl, fun a p => t.keep a (prot_callee ok p)⟩, fun _ => rfl, ?_⟩
  refine ⟨ok'.sub, fun l o e => ?_, fun l l' o o' e e' z => ?_, fun i x e => (ok.env i x e).mono (back_le t) (fun _ => rfl), ok.len, ok'.ng, fun a p => ?_⟩
  · cases l with
    | sl i =>
      have e1 := slc i o e
      have p := own i o e1
      obtain ⟨_, r⟩ := ok.cell _ _ (cell_sl0 e1)
      exact ⟨(ok'.prot _ (by rw [P']; exact p)).2.1, r.mono (back_le t) (t.keep _ p)⟩
    | gl n =>
      obtain ⟨f, r⟩ := ok'.cell (.gl n) o (glc n o e)
      exact ⟨f, r.mono back_ge rfl⟩
  · cases l with
    | sl i =>
      have e1 := slc i o e
      cases l' with
      | sl j => exact ok.inj _ _ _ _ (cell_sl0 e1) (cell_sl0 (slc j o' e')) z
      | gl n => exact absurd ⟨.gl n, o', glc n o' e', z.symm⟩ (ok'.prot _ (by rw [P']; exact own i o e1)).2.2
    | gl n =>
      cases l' with
      | sl j => exact absurd ⟨.gl n, o, glc n o e, z⟩ (ok'.prot _ (by rw [P']; exact own j o' (slc j o' e'))).2.2
      | gl n' => exact ok'.inj (.gl n) (.gl n') o o' (glc n o e) (glc n' o' e') z
  · have q := prot_callee ok p
    obtain ⟨h1, h2, h3⟩ := ok'.prot a (by rw [P']; exact q)
    refine ⟨h1, h2, fun ⟨l, o, e, z⟩ => ?_⟩
    cases l with
    | sl i => exact (ok.prot a p).2.2 ⟨.sl i, o, cell_sl0 (slc i o e), z⟩
    | gl n => exact h3 ⟨.gl n, o, glc n o e, z⟩
/-- a call at the level of what is wanted -/
theorem sp_call {f : Fm} {vs : List V} {ds : List D} {Q : VK} {E : XK} (ok : Ok K g s σ H) (r : RepL K g vs ds)
    (h : PostE K W σ g s H (kE K Q) (match f ds s.gl with
      | .ok d gl => .ok (.d d) { s with gl := gl }
      | .exc c p gl => .exc c p { s with gl := gl }
      | .stuck => .stuck)) (hE : ∀ cls d H, W cls d σ H → E cls d H) : spM K f vs H Q E := by
  refine ⟨g.callee s.gl H, s.gl, ds, ok.callee, r.mono (callee_le g s.gl H), ?_⟩
  cases e : f ds s.gl with
  | ok d gl' =>
    rw [e] at h
    intro v g' H' t o' rv
    obtain ⟨t2, k2, o2⟩ := ok.back t o'
    exact h _ _ t2 k2 o2 v (show Rep K (g.back g') v d from rv.mono back_ge)
  | exc c p gl' =>
    rw [e] at h
    intro cls dd g' H' t o' rv
    obtain ⟨t2, k2, o2⟩ := ok.back t o'
    exact hE _ _ _ (h cls dd _ _ t2 k2 o2 (rv.mono back_ge))
  | stuck => rw [e] at h; exact h
end
section
variable {X : Cx} {W : WX} {e : Expr} {es : List Expr} {me : M} {m : S → Res (List D)} {pos p : Pos} {k : Nat} {f : Addr} {fd : FuncData} {ps : List Str} {fm : Fm} {x : Str}
theorem me_call (F : FnOk X.prog X.w X.K X.mg X.base (L2.CX X.prog X.w) k f fd ps (spM X.K fm)) (hr : Room k X.A) (hg : Gl X x) (hm : X.mg x = some (.ref f)) (hk : PySem.W.keepIn X.K (.ref f) = true) (hb : Binds X.K fd ps []) (tk : Takes X W)
    (ha : MA X W (e :: es) m) (hdb : (x == ("__debug__" : Str)) = false := by decide) (he : starEach (e :: es) X.env = (false, eval e X.env) :: starEach es X.env := by rfl) (hpl : (backTo pos (starEach es X.env)).any (·.1) = false := by rfl) :
    ME X W (.Call (.Name x p) (e :: es) [] pos) (mCall fm m) := by
  refine pe_imp (pe_callS F hr hg hm hk hb (fun σ => passAt tk σ) ha hdb he hpl) fun σ H Q ⟨g, s, ok, h⟩ => ?_
  refine ⟨g, s, ok, (PostE.bind h).mono fun ds g1 s1 H1 t1 k1 o1 h1 vs rs => ?_⟩
  exact sp_call o1 rs h1 fun _ _ _ h => h
end

/-! ### a def keeps its mirror's promise -/
theorem Ok.drop {K : PySem.W.Frag} {σ : L2.St} {g : G} {s : S} {H : Hp} (ok : Ok K g s σ H) : Ok K g ⟨[], s.gl⟩ [] H where
  sub := ok.sub
  cell := fun l o e => by
    cases l with
    | sl i => exact nomatch (show (none : Option MObj) = some o from e)
    | gl n => exact ok.cell (.gl n) o e
  inj := fun l l' o o' e e' z => by
    cases l with
    | sl i => exact nomatch (show (none : Option MObj) = some o from e)
    | gl n =>
      cases l' with
      | sl i => exact nomatch (show (none : Option MObj) = some o' from e')
      | gl n' => exact ok.inj (.gl n) (.gl n') o o' e e' z
  env := fun i x e => nomatch e
  len := rfl
  ng := ok.ng
  prot := fun a p => by
    obtain ⟨h1, h2, h3⟩ := ok.prot a p
    refine ⟨h1, h2, fun ⟨l, o, e, z⟩ => ?_⟩
    cases l with
    | sl i => exact nomatch (show (none : Option MObj) = some o from e)
    | gl n => exact h3 ⟨.gl n, o, e, z⟩
theorem env_start {K : PySem.W.Frag} {g : G} {vs : List V} {ds : List D} {N : List Str} (r : RepL K g vs ds) {i : Nat} {x : Slot} (e : (ds.map Slot.val ++ List.replicate (N.length - ds.length) Slot.none)[i]? = some x) : SlotRep K g (L2.start N vs) i x := by
  have hl := r.length
  by_cases h : i < ds.length
  · rw [List.getElem?_append_left (by simpa using h), List.getElem?_map] at e
    obtain ⟨d, hd⟩ : ∃ d, ds[i]? = some d := ⟨_, List.getElem?_eq_getElem h⟩
    rw [hd] at e
    cases e
    obtain ⟨v, hv, rv⟩ := r.get hd
    refine ⟨v, ?_, rv⟩
    unfold L2.start
    rw [List.getElem?_append_left (by simpa [hl] using h), List.getElem?_map, hv]
    rfl
  · rw [List.getElem?_append_right (by simpa using h)] at e
    have := (List.mem_replicate.mp (List.mem_of_getElem? e)).2
    subst this
    trivial
theorem Ok.enter {K : PySem.W.Frag} {g : G} {gl : List MObj} {H : Hp} {vs : List V} {ds : List D} {N : List Str} (ok : Ok K g ⟨[], gl⟩ [] H) (r : RepL K g vs ds) (hN : ds.length ≤ N.length) :
    Ok K g ⟨ds.map Slot.val ++ List.replicate (N.length - ds.length) Slot.none, gl⟩ (L2.start N vs) H := by
  have slc : ∀ i o, cellOf ⟨ds.map Slot.val ++ List.replicate (N.length - ds.length) Slot.none, gl⟩ (.sl i) = some o → False := by
    intro i o e
    have e' : (match (ds.map Slot.val ++ List.replicate (N.length - ds.length) Slot.none)[i]? with | some (.own o) => some o | _ => none) = some o := e
    split at e'
    · rename_i o' h
      rcases List.mem_append.mp (List.mem_of_getElem? h) with z | z
      · obtain ⟨d, _, z⟩ := List.mem_map.mp z
        cases z
      · cases (List.mem_replicate.mp z).2
    · cases e'
  refine ⟨ok.sub, fun l o e => ?_, fun l l' o o' e e' z => ?_, fun i x e => env_start r e, ?_, ok.ng, fun a p => ?_⟩
  · cases l with
    | sl i => exact (slc i o e).elim
    | gl n => exact ok.cell (.gl n) o e
  · cases l with
    | sl i => exact (slc i o e).elim
    | gl n =>
      cases l' with
      | sl i => exact (slc i o' e').elim
      | gl n' => exact ok.inj (.gl n) (.gl n') o o' e e' z
  · have hl := r.length
    unfold L2.start
    simp [hl]
  · obtain ⟨h1, h2, h3⟩ := ok.prot a p
    refine ⟨h1, h2, fun ⟨l, o, e, z⟩ => ?_⟩
    cases l with
    | sl i => exact (slc i o e).elim
    | gl n => exact h3 ⟨.gl n, o, e, z⟩
theorem fn_mirror {P : Program} {w : World} {K : PySem.W.Frag} {mg : Str → Option Value} {base : Heap} {x qual : Str} {params : Arguments} {body : List Stmt} {scope : Scope} {dvs : List V} {kws : List (Str × V)} {f : Addr} {fd : FuncData} {N ps : List Str} {k : Nat} {m : S → Res Out}
    (F : FunD K x qual params body scope dvs kws f fd) (Sc : FnScope N ps scope) (hN : ps.length ≤ N.length)
    (hbody : ∀ (cdv : Value) (A : Around) (outer : List Env) (s : Shared) (H : Hp) (E : XK), Room k (A.deeper (envOfC qual scope s.heap.objs.size f cdv)) →
      MSs (cxOf (L2.CX P w) P w K mg base N qual scope f cdv A outer s H E) (fun cls d _ H => E cls d H) body m) :
    FnOk P w K mg base (L2.CX P w) (k + 1) f fd ps (spM K (mDef ps.length N.length m)) := by
  refine F.ok Sc (fun vs H Q E h => ?_) (fun cdv A outer s H vs Q E hr h => ⟨_, hbody cdv A outer s H E hr, ?_⟩)
  · obtain ⟨g, gl, ds, ok, r, h⟩ := h
    unfold mDef at h
    by_cases z : ds.length = ps.length
    · exact r.length.trans z
    · rw [if_neg z] at h; exact h.elim
  · obtain ⟨g, gl, ds, ok, r, h⟩ := h
    unfold mDef at h
    by_cases z : ds.length = ps.length
    · rw [if_pos z] at h
      have o1 := ok.enter (N := N) r (by rw [z]; exact hN)
      refine ⟨g, _, o1, ?_⟩
      rw [z]
      cases e : m ⟨ds.map Slot.val ++ List.replicate (N.length - ps.length) Slot.none, gl⟩ with
      | ok a s' =>
        rw [e] at h
        cases a with
        | nx => exact fun σ' g' H' t o' => h _ _ _ t o'.drop .non
        | rt d => exact fun v σ' g' H' t o' rv => h _ _ _ t o'.drop rv
        | bk => exact h.elim
        | ct => exact h.elim
      | exc c p s' => rw [e] at h; exact fun σ' cls d g' H' t o' rv => h _ _ _ _ t o'.drop rv
      | stuck => rw [e] at h; exact h
    · rw [if_neg z] at h; exact h.elim
end MI
/-! # Statements -/
namespace MI
open PySem L2

section
variable {K : PySem.W.Frag} {W : WX} {σ : St} {g : G} {s : S} {H : Hp} {D : Ends}
theorem PostS.nx (h : PostS K W g s H D (.ok .nx s)) (o : Ok K g s σ H) : D.nx σ H := h σ g H (Step.refl _ _) o
end
/-! ### stores to names -/
def G.put (g : G) (i : Nat) (a : Addr) : G := { g with adr := fun l => if l = .sl i then a else g.adr l }
def assign (i : Nat) : RV → S → Option S
  | .d x, s => if i < s.env.length then some { s with env := s.env.set i (.val x) } else none
  | .new o, s => if i < s.env.length then some { s with env := s.env.set i (.own o) } else none
  | .at j, s => match leak (.at j) s with
    | some (x, s1) => if i < s1.env.length then some { s1 with env := s1.env.set i (.val x) } else none
    | none => none
section
variable {K : PySem.W.Frag} {W : WX} {σ : St} {g : G} {s : S} {H : Hp}
theorem cellOf_set {i : Nat} {x : Slot} (hi : i < s.env.length) {l : Loc} {o : MObj} (h : cellOf { s with env := s.env.set i x } l = some o) :
    (l = .sl i ∧ x = .own o) ∨ (l ≠ .sl i ∧ cellOf s l = some o) := by
  cases l with
  | gl n => exact .inr ⟨(fun z => nomatch z), h⟩
  | sl j =>
    have h' : (match (s.env.set i x)[j]? with | some (.own o) => some o | _ => none) = some o := h
    by_cases z : j = i
    · subst z
      rw [List.getElem?_set_self hi] at h'
      refine .inl ⟨rfl, ?_⟩
      cases x with
      | own w => cases h'; rfl
      | _ => cases h'
    · rw [List.getElem?_set_ne (Ne.symm z)] at h'
      exact .inr ⟨fun q => z (by cases q; rfl), h'⟩
theorem Ok.setVal {i : Nat} {v : V} {x : D} (ok : Ok K g s σ H) (r : Rep K g v x) (hi : i < s.env.length) : Ok K g { s with env := s.env.set i (.val x) } (σ.set i (some v)) H := by
  have sub : ∀ {l o}, cellOf { s with env := s.env.set i (.val x) } l = some o → cellOf s l = some o := fun h => by
    rcases cellOf_set hi h with ⟨_, z⟩ | ⟨_, z⟩
    · cases z
    · exact z
  refine ⟨ok.sub, fun l o e => ok.cell l o (sub e), fun l l' o o' e e' z => ok.inj l l' o o' (sub e) (sub e') z, fun j y e => ?_, by simpa using ok.len, ok.ng, fun a p => ?_⟩
  · have hi' : i < σ.length := by rw [← ok.len]; exact hi
    by_cases z : j = i
    · subst z
      have e' : (s.env.set j (.val x))[j]? = some y := e
      rw [List.getElem?_set_self hi] at e'
      cases e'
      exact ⟨v, List.getElem?_set_self hi', r⟩
    · have e' : (s.env.set i (.val x))[j]? = some y := e
      rw [List.getElem?_set_ne (Ne.symm z)] at e'
      have := ok.env j y e'
      cases y with
      | none => trivial
      | val d => obtain ⟨w, q, r⟩ := this; exact ⟨w, by rw [List.getElem?_set_ne (Ne.symm z)]; exact q, r⟩
      | own o => show (σ.set i (some v))[j]? = _; rw [List.getElem?_set_ne (Ne.symm z)]; exact this
  · obtain ⟨h1, h2, h3⟩ := ok.prot a p
    exact ⟨h1, h2, fun ⟨l, o, e, z⟩ => h3 ⟨l, o, sub e, z⟩⟩
theorem put_le {i : Nat} {a : Addr} : GLe g (g.put i a) := by
  refine ⟨Sub.refl _, Nat.le_refl _, fun n _ => ?_⟩
  show (if Loc.gl n = Loc.sl i then a else g.adr (.gl n)) = _
  rw [if_neg (by intro z; cases z)]
theorem put_step {i : Nat} {a : Addr} : Step g H (g.put i a) H := ⟨put_le, rfl, fun _ _ => rfl⟩
theorem put_same {i : Nat} {a : Addr} : (g.put i a).adr (.sl i) = a := if_pos rfl
theorem put_ne {i : Nat} {a : Addr} {l : Loc} (h : l ≠ .sl i) : (g.put i a).adr l = g.adr l := if_neg h
theorem Ok.setOwn {i : Nat} {a : Addr} {o : MObj} (ok : Ok K g s σ H) (hi : i < s.env.length) (n : g.F a = none) (np : ¬ g.P a) (nl : ¬ Live g s a) (q : ObjRep K g H a o) :
    Ok K (g.put i a) { s with env := s.env.set i (.own o) } (σ.set i (some (.ref a))) H := by
  have cs : ∀ {l w}, cellOf { s with env := s.env.set i (.own o) } l = some w → (l = .sl i ∧ w = o) ∨ (l ≠ .sl i ∧ cellOf s l = some w) := by
    intro l w h
    rcases cellOf_set hi h with ⟨e1, z⟩ | z
    · cases z; exact .inl ⟨e1, rfl⟩
    · exact .inr z
  refine ⟨ok.sub, fun l w e => ?_, fun l l' w w' e e' z => ?_, fun j y e => ?_, by simpa using ok.len, ok.ng, fun b p => ?_⟩
  · rcases cs e with ⟨rfl, rfl⟩ | ⟨hl, e⟩
    · rw [put_same]; exact ⟨n, q.mono put_le rfl⟩
    · rw [put_ne hl]
      obtain ⟨f, r⟩ := ok.cell l w e
      exact ⟨f, r.mono put_le rfl⟩
  · rcases cs e with ⟨e1, _⟩ | ⟨hl, e1⟩
    · rcases cs e' with ⟨e2, _⟩ | ⟨hl', e2⟩
      · rw [e1, e2]
      · rw [e1, put_same, put_ne hl'] at z
        exact absurd ⟨l', w', e2, z.symm⟩ nl
    · rcases cs e' with ⟨e2, _⟩ | ⟨hl', e2⟩
      · rw [e2, put_same, put_ne hl] at z
        exact absurd ⟨l, w, e1, z⟩ nl
      · rw [put_ne hl, put_ne hl'] at z
        exact ok.inj l l' w w' e1 e2 z
  · have hi' : i < σ.length := by rw [← ok.len]; exact hi
    by_cases z : j = i
    · subst z
      have e' : (s.env.set j (.own o))[j]? = some y := e
      rw [List.getElem?_set_self hi] at e'
      cases e'
      show (σ.set j (some (.ref a)))[j]? = _
      rw [put_same, List.getElem?_set_self hi']
    · have e' : (s.env.set i (.own o))[j]? = some y := e
      rw [List.getElem?_set_ne (Ne.symm z)] at e'
      have := ok.env j y e'
      cases y with
      | none => trivial
      | val d => obtain ⟨w, q, r⟩ := this; exact ⟨w, by rw [List.getElem?_set_ne (Ne.symm z)]; exact q, r.mono put_le⟩
      | own w =>
        show (σ.set i (some (.ref a)))[j]? = _
        rw [List.getElem?_set_ne (Ne.symm z), put_ne (fun q => z (by cases q; rfl))]; exact this
  · obtain ⟨h1, h2, h3⟩ := ok.prot b p
    refine ⟨h1, h2, fun ⟨l, w, e, z⟩ => ?_⟩
    rcases cs e with ⟨rfl, rfl⟩ | ⟨hl, e⟩
    · rw [put_same] at z
      exact np (z ▸ p)
    · rw [put_ne hl] at z
      exact h3 ⟨l, w, e, z⟩
theorem assign_ok {i : Nat} {v : V} {r : RV} {s' : S} (ok : Ok K g s σ H) (h : RepRV K g s H v r) (e : assign i r s = some s') :
    ∃ g', Step g H g' H ∧ Ok K g' s' (σ.set i (some v)) H := by
  cases r with
  | d x =>
    simp only [assign] at e
    split at e
    · rename_i hi
      cases e
      exact ⟨g, Step.refl _ _, ok.setVal h hi⟩
    · cases e
  | new o =>
    obtain ⟨a, rfl, n, np, nl, q⟩ := h
    simp only [assign] at e
    split at e
    · rename_i hi
      cases e
      exact ⟨_, put_step, ok.setOwn hi n np nl q⟩
    · cases e
  | «at» j =>
    simp only [assign] at e
    split at e
    · rename_i x s1 e1
      split at e
      · rename_i hi
        cases e
        obtain ⟨g1, t1, k1, o1, r1⟩ := leak_ok ok h e1
        exact ⟨g1, t1, o1.setVal r1 hi⟩
      · cases e
    · cases e
end

/-! ### small statements -/
def mNx : S → Res Out := fun s => .ok .nx s
def mSeq (a b : S → Res Out) : S → Res Out := fun s => match a s with
  | .ok .nx s1 => b s1
  | r => r
def mExpr (m : M) : S → Res Out := fun s => (m s).bind fun _ s1 => .ok .nx s1
def mRet (m : M) : S → Res Out := fun s => (mLeak m s).bind fun d s1 => .ok (.rt d) s1
def mRetN : S → Res Out := fun s => .ok (.rt .non) s
def mIfS (t : S → Res Bool) (a b : S → Res Out) : S → Res Out := fun s => (t s).bind fun c s1 => if c = true then a s1 else b s1
def mSet (i : Nat) (m : M) : S → Res Out := fun s => (m s).bind fun r s1 => match assign i r s1 with
  | some s2 => .ok .nx s2
  | none => .stuck
def mBrk : S → Res Out := fun s => .ok .bk s
def mCont : S → Res Out := fun s => .ok .ct s
section
variable {X : Cx} {W : WX} {e c : Expr} {me : M} {t : S → Res Bool} {st : Stmt} {a b rest : List Stmt} {ma mb : S → Res Out} {pos : Pos}
theorem mss_nil : MSs X W [] mNx := pss_imp pss_nil fun D σ H ⟨g, s, ok, h⟩ => PostS.nx h ok
theorem mss_cons (h1 : MS X W st ma) (h2 : MSs X W rest mb) : MSs X W (st :: rest) (mSeq ma mb) := by
  refine pss_imp (pss_cons h1 h2) fun D σ H ⟨g, s, ok, h⟩ => ⟨g, s, ok, ?_⟩
  unfold mSeq at h
  cases e : ma s with
  | ok o s1 =>
    simp only [e] at h
    cases o with
    | nx => exact fun σ' g' H' t o' => ⟨g', s1, o', PostS.after h t⟩
    | rt d => exact h
    | bk => exact h
    | ct => exact h
  | exc c p s1 => simp only [e] at h; exact h
  | stuck => simp only [e] at h; exact h
theorem mss_one (h1 : MS X W st ma) : MSs X W [st] ma := pss_one h1
theorem ms_pass : MS X W (.Pass pos) mNx := ps_imp ps_pass fun D σ H ⟨g, s, ok, h⟩ => PostS.nx h ok
theorem ms_break : MS X W (.Break pos) mBrk := ps_imp ps_break fun D σ H ⟨g, s, ok, h⟩ => h σ g H (Step.refl _ _) ok
theorem ms_continue : MS X W (.Continue pos) mCont := ps_imp ps_continue fun D σ H ⟨g, s, ok, h⟩ => h σ g H (Step.refl _ _) ok
theorem ms_doc {x j p p'} : MS X W (.Expr (.Constant (.str x) j p) p') mNx := ps_imp ps_doc fun D σ H ⟨g, s, ok, h⟩ => PostS.nx h ok
theorem ms_expr (he : ME X W e me) (hs : swapsWith e none pos.line X.env = pure false := by rfl) : MS X W (.Expr e pos) (mExpr me) := by
  refine ps_imp (ps_expr he hs) fun D σ H ⟨g, s, ok, h⟩ => ?_
  exact ⟨g, s, ok, (PostS.bind h).mono fun r g1 s1 H1 t1 k1 o1 h1 v rv => PostS.nx h1 o1⟩
theorem ms_ret (he : ME X W e me) : MS X W (.Return (some e) pos) (mRet me) := by
  refine ps_imp (ps_ret he) fun D σ H ⟨g, s, ok, h⟩ => ?_
  exact tM_leak ok (PostS.bind h) fun d g1 s1 H1 v t1 k1 o1 rv h1 => h1 v σ g1 H1 (Step.refl _ _) o1 rv
theorem ms_retN : MS X W (.Return none pos) mRetN := ps_imp ps_retN fun D σ H ⟨g, s, ok, h⟩ => h .non σ g H (Step.refl _ _) ok .non
theorem ms_if (hc : MT X W c t) (ha : MSs X W a ma) (hb : MSs X W b mb) : MS X W (.If c a b pos) (mIfS t ma mb) := by
  refine ps_imp (ps_if hc ha hb) fun D σ H ⟨g, s, ok, h⟩ => ?_
  refine ⟨g, s, ok, (PostS.bind h).mono fun c g1 s1 H1 t1 k1 o1 h1 => ?_⟩
  cases c with
  | true => rw [if_pos rfl] at h1; show (if true = true then _ else _); rw [if_pos rfl]; exact ⟨g1, s1, o1, h1⟩
  | false => rw [if_neg (by decide)] at h1; show (if false = true then _ else _); rw [if_neg (by decide)]; exact ⟨g1, s1, o1, h1⟩
theorem ms_set {i : Nat} {x : Str} {pos' : Pos} (he : ME X W e me) (hN : X.N.Nodup) (hi : X.N[i]? = some x := by rfl) (hx : L2.Loc X.env.scope x := by first | exact Or.inl rfl | exact Or.inr rfl)
    (hs : swapsWith e (some (.Name x pos')) pos.line X.env = pure false := by rfl) (hf : X.fn x = true ∨ X.env.scope.names.lookup x = some .local := by first | exact .inl rfl | exact .inr rfl) :
    MS X W (.Assign [.Name x pos'] e pos) (mSet i me) := by
  refine ps_imp (ps_set hN hi hx he hs hf) fun D σ H ⟨g, s, ok, h⟩ => ?_
  refine ⟨g, s, ok, (PostS.bind h).mono fun r g1 s1 H1 t1 k1 o1 h1 v rv => ?_⟩
  show D.nx (σ.set i (some v)) H1
  split at h1
  · rename_i s2 e2
    obtain ⟨g2, t2, o2⟩ := assign_ok o1 rv e2
    exact h1 _ g2 H1 t2 o2
  · exact h1.elim
end
end MI
/-! # Several values at once, stored to names -/
namespace MI
open PySem L2

inductive RepRVs (K : PySem.W.Frag) (g : G) (s : S) (H : Hp) : List V → List RV → List Addr → Prop
  | nil : RepRVs K g s H [] [] []
  | d {v : V} {x : D} {vs : List V} {rs : List RV} {L : List Addr} : Rep K g v x → RepRVs K g s H vs rs L → RepRVs K g s H (v :: vs) (.d x :: rs) L
  | new {a : Addr} {o : MObj} {vs : List V} {rs : List RV} {L : List Addr} : g.F a = none → ¬ g.P a → ¬ Live g s a → ObjRep K g H a o → a ∉ L → RepRVs K g s H vs rs L → RepRVs K g s H (.ref a :: vs) (.new o :: rs) (a :: L)
abbrev kR (K : PySem.W.Frag) (Q : List V → Hp → Prop) : List RV → G → S → Hp → Prop := fun r g s H => ∀ v L, RepRVs K g s H v r L → Q v H
def tMR (K : PySem.W.Frag) (W : WX) (m : S → Res (List RV)) : TA := fun σ H Q => ∃ g s, Ok K g s σ H ∧ PostE K W σ g s H (kR K Q) (m s)
def MR (X : Cx) (W : WX) (es : List Expr) (m : S → Res (List RV)) : Prop := PA X es (tMR X.K W m)
def mHold (a : M) : M := fun s => (a s).bind fun r s1 => match r with
  | .at i => match leak (.at i) s1 with
    | some (d, s2) => .ok (.d d) s2
    | none => .stuck
  | r => .ok r s1
def mRNil : S → Res (List RV) := fun s => .ok [] s
def mRCons (a : M) (r : S → Res (List RV)) : S → Res (List RV) := fun s => (mHold a s).bind fun x s1 => (r s1).bind fun xs s2 => .ok (x :: xs) s2
def G.hold (g : G) (a : Addr) : G := { g with P := fun b => g.P b ∨ b = a }
def G.wP (g : G) (P : Addr → Prop) : G := { g with P := P }
section
variable {K : PySem.W.Frag} {W : WX} {σ : St} {g : G} {s : S} {H : Hp}
theorem wP_le {P : Addr → Prop} : GLe g (g.wP P) := ⟨Sub.refl _, Nat.le_refl _, fun _ _ => rfl⟩
theorem wP_ge {P : Addr → Prop} : GLe (g.wP P) g := ⟨Sub.refl _, Nat.le_refl _, fun _ _ => rfl⟩
theorem Ok.wP {P : Addr → Prop} (ok : Ok K g s σ H) (h : ∀ a, P a → (∃ u, H a = some u) ∧ g.F a = none ∧ ¬ Live g s a) : Ok K (g.wP P) s σ H :=
  ⟨ok.sub, fun l o e => ⟨(ok.cell l o e).1, (ok.cell l o e).2.mono wP_le rfl⟩, ok.inj, fun i x e => (ok.env i x e).mono wP_le (SlKeep.refl _), ok.len, ok.ng, h⟩
theorem Ok.hold {a : Addr} {u : HO} (ok : Ok K g s σ H) (h : H a = some u) (n : g.F a = none) (nl : ¬ Live g s a) : Ok K (g.hold a) s σ H :=
  ok.wP (P := fun b => g.P b ∨ b = a) fun b p => by
    rcases p with p | rfl
    · exact ok.prot b p
    · exact ⟨⟨u, h⟩, n, nl⟩
theorem Ok.unhold {a : Addr} {g0 : G} (ok : Ok K g s σ H) (e : g.P = (g0.hold a).P) : Ok K (g.wP g0.P) s σ H :=
  ok.wP fun b p => ok.prot b (by rw [e]; exact .inl p)
theorem Step.unhold {a : Addr} {g' : G} {H' : Hp} (t : Step (g.hold a) H g' H') : Step g H (g'.wP g.P) H' :=
  ⟨⟨t.le.F, t.le.ng, t.le.adr⟩, rfl, fun b p => t.keep b (.inl p)⟩
theorem ObjRep.wP {P : Addr → Prop} {a : Addr} {o : MObj} (q : ObjRep K g H a o) : ObjRep K (g.wP P) H a o := q.mono wP_le rfl
theorem RepRVs.unhold {a : Addr} {vs : List V} {rs : List RV} {L : List Addr} {g0 : G} (e : g.P = (g0.hold a).P) (r : RepRVs K g s H vs rs L) : RepRVs K (g.wP g0.P) s H vs rs L ∧ a ∉ L := by
  induction r with
  | nil => exact ⟨.nil, by simp⟩
  | d x _ ih => exact ⟨.d (Rep.mono wP_le x) ih.1, ih.2⟩
  | @new b _ _ _ _ n np nl q m _ ih =>
    refine ⟨.new n (fun p => np (by rw [e]; exact .inl p)) nl q.wP m ih.1, fun z => ?_⟩
    rcases List.mem_cons.mp z with z | z
    · exact np (by rw [e]; exact .inr z.symm)
    · exact ih.2 z
theorem PostE.hold {α : Type} {k : α → G → S → Hp → Prop} {a : Addr} {r : Res α} (h : PostE K W σ g s H k r) :
    PostE K W σ (g.hold a) s H (fun b g' s' H' => k b (g'.wP g.P) s' H' ∧ H' a = H a ∧ g'.F a = none ∧ ¬ Live g' s' a ∧ g'.P = (g.hold a).P ∧ Step g H (g'.wP g.P) H' ∧ SlKeep g (g'.wP g.P)) r := by
  cases r with
  | ok b s' =>
    intro g' H' t sk o
    have pa : g'.P a := by rw [t.P]; exact .inr rfl
    obtain ⟨_, f, l⟩ := o.prot a pa
    exact ⟨h _ H' t.unhold sk (o.unhold t.P), t.keep a (.inr rfl), f, l, t.P, t.unhold, sk⟩
  | exc c p s' =>
    intro cls d g' H' t sk o rv
    exact h cls d _ H' t.unhold sk (o.unhold t.P) (rv.mono wP_le)
  | stuck => exact h
end
section
variable {X : Cx} {W : WX} {e : Expr} {es : List Expr} {me : M} {m : S → Res (List RV)} {pos : Pos}
theorem mr_nil : MR X W [] mRNil := pa_imp pa_nil fun σ H Q ⟨g, s, ok, h⟩ => PostE.done h ok _ _ .nil
theorem mr_cons (ha : ME X W e me) (hr : MR X W es m) (hs : starEach (e :: es) X.env = (false, eval e X.env) :: starEach es X.env := by rfl) : MR X W (e :: es) (mRCons me m) := by
  refine pa_imp (pa_cons ha hr hs) fun σ H Q ⟨g, s, ok, h⟩ => ?_
  refine ⟨g, s, ok, (PostE.bind (PostE.bind h)).mono fun r g1 s1 H1 t1 k1 o1 h1 v rv => ?_⟩
  have dcase : ∀ {x : D} {g2 : G} {s2 : S}, Step g1 H1 g2 H1 → SlKeep g1 g2 → Ok X.K g2 s2 σ H1 → Rep X.K g2 v x →
      PostE X.K W σ g2 s2 H1 (kR X.K Q) ((m s2).bind fun xs s3 => .ok (.d x :: xs) s3) → tMR X.K W m σ H1 (fun xs H2 => Q (v :: xs) H2) := by
    intro x g2 s2 t2 k2 o2 rx h2
    refine ⟨g2, s2, o2, (PostE.bind h2).mono fun xs g3 s3 H3 t3 k3 o3 h3 vs L rs => ?_⟩
    exact PostE.done h3 o3 _ _ (.d (rx.mono t3.le) rs)
  cases r with
  | d x => exact dcase (Step.refl _ _) (SlKeep.refl _) o1 rv (PostE.done h1 o1)
  | «at» i =>
    cases e1 : leak (.at i) s1 with
    | none => simp only [e1] at h1; exact h1.elim
    | some p =>
      obtain ⟨x, s2⟩ := p
      simp only [e1] at h1
      obtain ⟨g2, t2, k2, o2, r2⟩ := leak_ok o1 rv e1
      exact dcase t2 k2 o2 r2 (h1 g2 H1 t2 k2 o2)
  | new o =>
    obtain ⟨a, rfl, n, np, nl, q⟩ := rv
    obtain ⟨u, hu⟩ := q.some
    have h2 := PostE.done h1 o1
    refine ⟨g1.hold a, s1, o1.hold hu n nl, ((PostE.bind h2).hold (a := a)).mono fun xs g3 s3 H3 t3 k3 o3 ⟨h3, e3, f3, l3, p3, st3, sk3⟩ vs L rs => ?_⟩
    obtain ⟨rs', nm⟩ := rs.unhold p3
    have q3 : ObjRep X.K (g3.wP g1.P) H3 a o := q.mono st3.le e3
    exact PostE.done h3 (o3.unhold p3) _ _ (.new f3 np l3 q3 nm rs')
end
/-! ### stores -/
def assignAll : List Nat → List RV → S → Option S
  | [], [], s => some s
  | i :: is, r :: rs, s => match assign i r s with
    | some s1 => assignAll is rs s1
    | none => none
  | _, _, _ => none
def setAll (σ : St) : List Nat → List V → St
  | i :: is, v :: vs => setAll (σ.set i (some v)) is vs
  | _, _ => σ
section
variable {K : PySem.W.Frag} {W : WX}
theorem assignAll_ok : ∀ {is : List Nat} {vs : List V} {rs : List RV} {L : List Addr} {σ : St} {g : G} {s s' : S} {H : Hp}, Ok K g s σ H → RepRVs K g s H vs rs L → assignAll is rs s = some s' →
    ∃ g', Step g H g' H ∧ Ok K g' s' (setAll σ is vs) H := by
  intro is
  induction is with
  | nil =>
    intro vs rs L σ g s s' H ok r e
    cases r with
    | nil => cases e; exact ⟨g, Step.refl _ _, ok⟩
    | d _ _ => cases e
    | new _ _ _ _ _ _ => cases e
  | cons i is ih =>
    intro vs rs L σ g s s' H ok r e
    cases r with
    | nil => cases e
    | @d v x vs rs L rx r =>
      simp only [assignAll] at e
      split at e
      · rename_i s1 e1
        simp only [assign] at e1
        split at e1
        · rename_i hi
          cases e1
          have o1 := ok.setVal rx hi
          have r1 : RepRVs K g { s with env := s.env.set i (.val x) } H vs rs L := by
            clear ih e
            induction r with
            | nil => exact .nil
            | d x _ ih => exact .d x ih
            | new n np nl q m _ ih =>
              refine .new n np (fun ⟨l, w, z, za⟩ => nl ?_) q m ih
              rcases cellOf_set hi z with ⟨_, z⟩ | ⟨_, z⟩
              · cases z
              · exact ⟨l, w, z, za⟩
          exact ih o1 r1 e
        · cases e1
      · cases e
    | @new a o vs rs L n np nl q m r =>
      simp only [assignAll] at e
      split at e
      · rename_i s1 e1
        simp only [assign] at e1
        split at e1
        · rename_i hi
          cases e1
          have o1 := ok.setOwn hi n np nl q
          have r1 : RepRVs K (g.put i a) { s with env := s.env.set i (.own o) } H vs rs L := by
            clear ih e
            induction r with
            | nil => exact .nil
            | d x _ ih => exact .d (Rep.mono put_le x) (ih (by simpa using m))
            | @new b w _ _ _ n2 np2 nl2 q2 m2 _ ih2 =>
              have ne : b ≠ a := fun z => m (by rw [z]; exact List.mem_cons_self)
              refine .new n2 np2 (fun ⟨l, w, z, za⟩ => ?_) (q2.mono put_le rfl) m2 (ih2 fun z => m (List.mem_cons_of_mem _ z))
              rcases cellOf_set hi z with ⟨rfl, _⟩ | ⟨hl, z⟩
              · rw [put_same] at za; exact ne za.symm
              · rw [put_ne hl] at za; exact nl2 ⟨l, w, z, za⟩
          obtain ⟨g2, t2, o2⟩ := ih o1 r1 e
          exact ⟨g2, (put_step (i := i) (a := a)).trans t2, o2⟩
        · cases e1
      · cases e
end
def mParN (is : List Nat) (m : S → Res (List RV)) : S → Res Out := fun s => (m s).bind fun rs s1 => match assignAll is rs s1 with
  | some s2 => .ok .nx s2
  | none => .stuck
theorem RepRVs.len {K : PySem.W.Frag} {g : G} {s : S} {H : Hp} {vs : List V} {rs : List RV} {L : List Addr} (r : RepRVs K g s H vs rs L) : vs.length = rs.length := by
  induction r with
  | nil => rfl
  | d _ _ ih => simp [ih]
  | new _ _ _ _ _ _ ih => simp [ih]
theorem assignAll_len : ∀ {is : List Nat} {rs : List RV} {s s' : S}, assignAll is rs s = some s' → is.length = rs.length
  | [], [], _, _, _ => rfl
  | [], _ :: _, _, _, e => by cases e
  | _ :: _, [], _, _, e => by cases e
  | i :: is, r :: rs, s, s', e => by
    simp only [assignAll] at e
    split at e
    · rw [List.length_cons, List.length_cons, assignAll_len e]
    · cases e
section
variable {X : Cx} {W : WX} {a b c : Expr} {m : S → Res (List RV)}
theorem ms_par {i j : Nat} {x y : Str} {px py pt pos : Pos} {kt k2 pt2} (hc : X.calm = true) (hN : X.N.Nodup) (ha : MR X W [a, b] m) (hi : X.N[i]? = some x := by rfl) (hj : X.N[j]? = some y := by rfl) (hij : i ≠ j := by decide)
    (hx : X.env.scope.names.lookup x = some .local := by rfl) (hy : X.env.scope.names.lookup y = some .local := by rfl)
    (hw : swappedStores [.Tuple [.Name x px, .Name y py] kt pt] (.Tuple [a, b] k2 pt2) X.env = pure (some [x, y]) := by rfl)
    (hs : swapsWithSole [.Tuple [.Name x px, .Name y py] kt pt] (.Tuple [a, b] k2 pt2) pos.line X.env = pure false := by rfl) :
    MS X W (.Assign [.Tuple [.Name x px, .Name y py] kt pt] (.Tuple [a, b] k2 pt2) pos) (mParN [i, j] m) := by
  refine ps_imp (ps_par hc hN hi hj hij hx hy ha hw hs) fun D σ H ⟨g, s, ok, h⟩ => ?_
  refine ⟨g, s, ok, (PostS.bind h).mono fun rs g1 s1 H1 t1 k1 o1 h1 vs L rv => ?_⟩
  split at h1
  · rename_i s2 e
    obtain ⟨g2, t2, o2⟩ := assignAll_ok o1 rv e
    have hl := (assignAll_len e).trans rv.len.symm
    obtain ⟨v, w, rfl⟩ : ∃ v w, vs = [v, w] := by
      match vs, hl with
      | [v, w], _ => exact ⟨v, w, rfl⟩
    exact ⟨v, w, rfl, h1 _ g2 H1 t2 o2⟩
  · exact h1.elim
theorem ms_par3 {i j l : Nat} {x y z : Str} {px py pz pt pos : Pos} {kt k2 pt2} (hc : X.calm = true) (hN : X.N.Nodup) (ha : MR X W [a, b, c] m) (hi : X.N[i]? = some x := by rfl) (hj : X.N[j]? = some y := by rfl) (hl : X.N[l]? = some z := by rfl)
    (hij : i ≠ j := by decide) (hil : i ≠ l := by decide) (hjl : j ≠ l := by decide)
    (hx : X.env.scope.names.lookup x = some .local := by rfl) (hy : X.env.scope.names.lookup y = some .local := by rfl) (hz : X.env.scope.names.lookup z = some .local := by rfl)
    (hw : swappedStores [.Tuple [.Name x px, .Name y py, .Name z pz] kt pt] (.Tuple [a, b, c] k2 pt2) X.env = pure (some [x, y, z]) := by rfl)
    (hs : swapsWithSole [.Tuple [.Name x px, .Name y py, .Name z pz] kt pt] (.Tuple [a, b, c] k2 pt2) pos.line X.env = pure false := by rfl) :
    MS X W (.Assign [.Tuple [.Name x px, .Name y py, .Name z pz] kt pt] (.Tuple [a, b, c] k2 pt2) pos) (mParN [i, j, l] m) := by
  refine ps_imp (ps_par3 hc hN hi hj hl hij hil hjl hx hy hz ha hw hs) fun D σ H ⟨g, s, ok, h⟩ => ?_
  refine ⟨g, s, ok, (PostS.bind h).mono fun rs g1 s1 H1 t1 k1 o1 h1 vs L rv => ?_⟩
  split at h1
  · rename_i s2 e
    obtain ⟨g2, t2, o2⟩ := assignAll_ok o1 rv e
    have hl := (assignAll_len e).trans rv.len.symm
    obtain ⟨v, w, u, rfl⟩ : ∃ v w u, vs = [v, w, u] := by
      match vs, hl with
      | [v, w, u], _ => exact ⟨v, w, u, rfl⟩
    exact ⟨v, w, u, rfl, h1 _ g2 H1 t2 o2⟩
  · exact h1.elim
end

/-! ### a tuple's parts to names -/
/-- targets that are plain names, by their slots -/
def gNames : List Nat → TGs
  | [] => gNil
  | i :: is => gCons (gName i) (gNames is)
theorem gNames_set : ∀ {is : List Nat} {vs : List V} {σ : St} {H : Hp} {Q : St → Hp → Prop}, is.length = vs.length → Q (setAll σ is vs) H → gNames is vs σ H Q
  | [], [], _, _, _, _, q => ⟨rfl, q⟩
  | i :: is, v :: vs, σ, H, Q, hl, q => ⟨v, vs, rfl, gNames_set (is := is) (vs := vs) (σ := σ.set i (some v)) (by simpa using hl) q⟩
def mUnp (is : List Nat) (m : M) : S → Res Out := fun s => (mLeak m s).bind fun d s1 => match d with
  | .tup ds => match assignAll is (ds.map .d) s1 with
    | some s2 => .ok .nx s2
    | none => .stuck
  | _ => .stuck
theorem repRVs_d {K : PySem.W.Frag} {g : G} {s : S} {H : Hp} : ∀ {vs : List V} {ds : List D}, RepL K g vs ds → RepRVs K g s H vs (ds.map .d) []
  | _, _, .nil => .nil
  | _, _, .cons a b => .d a (repRVs_d b)
section
variable {X : Cx} {W : WX} {e : Expr} {me : M} {ts es : List Expr} {is : List Nat} {m : S → Res (List RV)}
theorem ms_unp {kt : Nat} {pt pos : Pos} (hc : X.calm = true) (he : ME X W e me) (ht : PGs X ts (gNames is))
    (hn : (assignEach ts X.env).length = is.length := by rfl) (hst : (assignEach ts X.env).findIdx? (·.1) = none := by rfl)
    (hs : swapsWithSole [.Tuple ts kt pt] e pos.line X.env = pure false := by rfl) (hw : swappedStores [.Tuple ts kt pt] e X.env = pure none := by rfl)
    (h1 : (assignEach [.Tuple ts kt pt] X.env).map (·.2) = [PySem.assign (.Tuple ts kt pt) X.env] := by rfl) :
    MS X W (.Assign [.Tuple ts kt pt] e pos) (mUnp is me) := by
  refine ps_imp (ps_asg he (pg_tup hc ht hn hst) hs hw h1) fun D σ H ⟨g, s, ok, h⟩ => ?_
  refine tM_leak ok (PostS.bind h) fun d g1 s1 H1 v t1 k1 o1 rv h1 => ?_
  split at h1
  · rename_i ds
    split at h1
    · rename_i s2 e
      cases rv with
      | tup hq rl =>
        obtain ⟨g2, t2, o2⟩ := assignAll_ok o1 (repRVs_d rl) e
        have hl := (assignAll_len e).trans ((List.length_map _).trans rl.length.symm)
        exact ⟨_, _, rfl, sqT_mono o1.sub hq, hl.symm, gNames_set hl (h1 _ g2 H1 t2 o2)⟩
    · exact h1.elim
  · exact h1.elim
/-- (x, y, ..) = (a, b, ..) where the tuple is made: the parts may be new objects -/
theorem ms_tupN {kt kt2 : Nat} {pt pt2 pos : Pos} (hc : X.calm = true) (he : MR X W es m) (ht : PGs X ts (gNames is)) (hl20 : is.length ≤ 100)
    (hn : (assignEach ts X.env).length = is.length := by rfl) (hst : (assignEach ts X.env).findIdx? (·.1) = none := by rfl)
    (hs : swapsWithSole [.Tuple ts kt pt] (.Tuple es kt2 pt2) pos.line X.env = pure false := by rfl) (hw : swappedStores [.Tuple ts kt pt] (.Tuple es kt2 pt2) X.env = pure none := by rfl)
    (h1 : (assignEach [.Tuple ts kt pt] X.env).map (·.2) = [PySem.assign (.Tuple ts kt pt) X.env] := by rfl) :
    MS X W (.Assign [.Tuple ts kt pt] (.Tuple es kt2 pt2) pos) (mParN is m) := by
  refine ps_imp (ps_asg (pe_tup he) (pg_tup hc ht hn hst) hs hw h1) fun D σ H ⟨g, s, ok, h⟩ => ?_
  refine ⟨g, s, ok, (PostS.bind h).mono fun rs g1 s1 H1 t1 k1 o1 h1 vs L rv => ?_⟩
  split at h1
  · rename_i s2 e
    obtain ⟨g2, t2, o2⟩ := assignAll_ok o1 rv e
    have hl := (assignAll_len e).trans rv.len.symm
    have z : 100 ≤ sizeLine := by decide
    refine ⟨by omega, fun p hp => ⟨p, vs, rfl, .of upd_same, hl.symm, gNames_set hl ?_⟩⟩
    exact h1 _ g2 _ (t2.trans (Step.grow o2 hp)) (o2.grow hp)
  · exact h1.elim
theorem mgs_nil : PGs X [] (gNames []) := pgs_nil
theorem mgs_cons {i : Nat} {x : Str} {pos : Pos} (h2 : PGs X es (gNames is)) (hN : X.N.Nodup) (hi : X.N[i]? = some x := by rfl) (hx : L2.Loc X.env.scope x := by first | exact Or.inl rfl | exact Or.inr rfl)
    (hs : (assignEach (.Name x pos :: es) X.env).map (·.2) = PySem.assign (.Name x pos) X.env :: (assignEach es X.env).map (·.2) := by rfl) (hf : X.fn x = true ∨ X.env.scope.names.lookup x = some .local := by first | exact .inl rfl | exact .inr rfl) :
    PGs X (.Name x pos :: es) (gNames (i :: is)) := pgs_cons (pg_name hN hi hx hf) h2 hs
end
end MI
/-! # Subscripts, slices -/
namespace HT
open PySem PyProof.Rows
section
variable {prog : Program} {w : World} {A : Around} {E : Value → Shared → Prop} {s : Shared}
theorem rev_bounds (n : Nat) : Builtin.Slice.sliceAdjust none none (-1) (n : Int) = ((n : Int) - 1, -1) := by
  unfold Builtin.Slice.sliceAdjust
  simp
theorem rev_places (n : Nat) : Builtin.Slice.slicePlaces ((n : Int) - 1) (-1) (-1) = n := by
  unfold Builtin.Slice.slicePlaces
  simp
  omega
theorem sliceApplied_rev {sl : Addr} {vk : Value} {n : Nat} {Q : Int × Int × Nat → Shared → Prop} (hs : s.heap.IsSliceOf sl .none .none vk) (pk : IsPart vk (some (-1)))
    (h : Q ((n : Int) - 1, -1, n) s) : wpAny (model prog w) A (Builtin.Slice.sliceApplied (.ref sl) (pure (n : Int))) Q E s := by
  obtain ⟨os, hos, hcs, hds⟩ := id hs
  unfold Builtin.Slice.sliceApplied Builtin.Slice.sliceFields
  refine wpAny_bind (wpAny_bind (wpAny_field hos hds (x := .none) rfl (wpAny_bind (wpAny_field hos hds (x := .none) rfl (wpAny_bind (wpAny_field hos hds (x := vk) rfl (wpAny_pure ?_)))))))
  refine wpAny_bind (slicePart_ pk ?_)
  show wpAny _ _ (if ((-1 : Int) == 0) = true then _ else _) _ _ s
  rw [if_neg (by decide)]
  refine wpAny_bind (slicePart_none (wpAny_bind (slicePart_none (wpAny_bind (wpAny_pure ?_)))))
  show wpAny _ _ (match Builtin.Slice.sliceAdjust none none (-1) (n : Int) with | (lo, hi) => pure (lo, (-1 : Int), Builtin.Slice.slicePlaces lo hi (-1))) _ _ s
  rw [rev_bounds]
  show wpAny _ _ (pure ((n : Int) - 1, (-1 : Int), Builtin.Slice.slicePlaces ((n : Int) - 1) (-1) (-1))) _ _ s
  rw [rev_places]
  exact wpAny_pure h
theorem filterMap_cg {α β : Type} {f g : α → Option β} : ∀ {l : List α}, (∀ x ∈ l, f x = g x) → l.filterMap f = l.filterMap g
  | [], _ => rfl
  | x :: l, h => by
    rw [List.filterMap_cons, List.filterMap_cons, h x List.mem_cons_self, filterMap_cg fun y hy => h y (List.mem_cons_of_mem _ hy)]
theorem pick_rev (xs : Array Value) : ((List.range xs.size).filterMap fun (m : Nat) => xs[((xs.size : Int) - 1 + (m : Int) * (-1)).toNat]?).toArray = xs.toList.reverse.toArray := by
  congr 1
  have e : ∀ m ∈ List.range xs.size, xs[((xs.size : Int) - 1 + (m : Int) * (-1)).toNat]? = xs[xs.size - 1 - m]? := by
    intro m hm
    have := List.mem_range.mp hm
    have e : ((xs.size : Int) - 1 + (m : Int) * (-1)).toNat = xs.size - 1 - m := by omega
    rw [e]
  rw [filterMap_cg e]
  have h2 : (List.range xs.size).filterMap (fun m => xs[xs.size - 1 - m]?) = ((List.range xs.size).map fun k => xs.size - 1 - k).filterMap (xs[·]?) := by
    rw [List.filterMap_map]; rfl
  rw [h2, PySem.W.krv_range, List.filterMap_reverse, PySem.W.krv_all]
theorem getItem_tuple_rev {t sl : Addr} {items : Array Value} {vk : Value} {Q : Value → Shared → Prop} (ht : IsTup s.heap t items) (hs : s.heap.IsSliceOf sl .none .none vk) (pk : IsPart vk (some (-1)))
    (h : Q (.ref s.heap.objs.size) { s with heap := s.heap.push { cls := .type "tuple", data := .seq items.toList.reverse.toArray } })
    (hsz : items.size ≤ sizeLine) : wpAny (model prog w) A (getItem (.ref t) (.ref sl)) Q E s := by
  have htake : sizeOk (.seq items.toList.reverse.toArray) := by
    show items.toList.reverse.toArray.size ≤ sizeLine
    rw [List.size_toArray, List.length_reverse, Array.length_toList]
    exact hsz
  obtain ⟨os, hos, hcs, hds⟩ := id hs
  have hTs : s.TypeIs (.ref sl) "slice" := ⟨os, hos, hcs⟩
  unfold getItem
  try with_reducible refine wpAny_holding ?_
  first | refine wpAny_bind (wpAny_pure ?_) | skip
  refine wpAny_bind (wpAny_sequenceKey ht.typeIs (by decide) ?_)
  refine wpAny_bind (wpAny_callSpecial?_slot (name := Str.ofString "__getitem__") ht.typeIs PyProof.Rows.slot_tuple_getitem
    (wpAny_call_entry PyProof.Rows.slot_tuple_getitem ht.typeIs entry_tuple_getitem ?_ (args_tuple_getitem _ _)))
  show wpAny _ _ (Builtin.Tuple.tupleItemsOf (.ref t) >>= _) _ _ s
  refine wpAny_bind (tupleItemsOf_ ht ?_)
  refine wpAny_bind (wpAny_typeOf hTs ?_)
  rw [if_pos (by decide)]
  refine wpAny_bind (sliceApplied_rev hs pk ?_)
  have hno : ¬ ((((items.size : Int) - 1) == 0 && (-1 : Int) == 1 && items.size == items.size) = true) := by
    intro q
    rw [Bool.and_eq_true, Bool.and_eq_true] at q
    exact absurd q.1.2 (by decide)
  show wpAny _ _ (if (((items.size : Int) - 1) == 0 && (-1 : Int) == 1 && items.size == items.size) = true then _ else _) _ _ s
  rw [if_neg hno, pick_rev]
  first
    | exact wpAny_bind (m := Builtin.Tuple.tupleExact _) (wpAny_newObj_type (wpAny_pure ⟨_, rfl, wpAny_pure h⟩) htake)
    | exact wpAny_bind (m := Builtin.Tuple.tupleExact _) (wpAny_newObj_type (wpAny_bind (wpAny_pure (wpAny_pure ⟨_, rfl, wpAny_pure h⟩))) htake)
    | exact wpAny_bind (wpAny_bind (m := Builtin.Tuple.tupleExact _) (wpAny_newObj_type (wpAny_pure (wpAny_pure ⟨_, rfl, wpAny_pure h⟩)) htake))
    | exact wpAny_bind (wpAny_bind (m := Builtin.Tuple.tupleExact _) (wpAny_newObj_type (wpAny_pure ⟨_, rfl, wpAny_pure h⟩) htake))
end
end HT
namespace L2
open PySem PySem.Spec PyProof.Rows
section
variable {X : Cx} {e k : Expr} {te tk : TE} {pos p2 : Pos}
/-- xs[::k], k minus one: a list or a tuple backward -/
def tRev (K : PySem.W.Frag) (te tk : TE) : TE := fun σ H Q => te σ H fun x H1 => tk σ H1 fun y H2 => y = .int (-1) ∧
  ((∃ a xs, x = .ref a ∧ SqL K H2 a xs ∧ ∀ p, H2 p = none → Q (.ref p) (upd H2 p (.lst xs.reverse))) ∨
   (∃ a xs, x = .ref a ∧ SqT K H2 a xs ∧ ∀ p, H2 p = none → Q (.ref p) (upd H2 p (.tup xs.reverse))))
theorem pe_rev (he : PE X e te) (hk : PE X k tk) : PE X (.Subscript e (.Slice none none (some k) p2) pos) (tRev X.K te tk) := by
  refine ⟨fun pins s σ H Q I h => ?_⟩
  refine Subscript_ (thn (he.run pins s σ H _ I h) fun v s1 ⟨x, H1, I1, r1, q1⟩ => ?_)
  refine wpAny_Slice ?_
  rw [evalPart_none, evalPart_some]
  refine wpAny_pure (wpAny_pure ?_)
  refine thn (hk.run pins s1 σ H1 _ I1 q1) fun vk s2 ⟨y, H2, I2, rk, hy, hq⟩ => ?_
  subst hy
  obtain ⟨tk, rfl⟩ := rk
  have I4 : Inv X pins σ H2 { s2 with heap := s2.heap.push { cls := .type "slice", data := .fields #[.none, .none, .int (-1) tk] } } := I2.kept (t' := s2.toks) fun b ob q => Heap.get?_push_of_some _ q
  show wpAny (model X.prog X.w) X.A (subscriptTail e (.Slice none none (some k) p2) v (.ref s2.heap.objs.size)) (EP X pins σ Q) X.xe { s2 with heap := s2.heap.push { cls := .type "slice", data := .fields #[.none, .none, .int (-1) tk] } }
  have hs := Heap.IsSliceOf.new s2.heap .none .none (.int (-1) tk)
  rcases hq with ⟨a, xs, rfl, hx, q⟩ | ⟨a, xs, rfl, hx, q⟩
  · cases r1
    obtain ⟨its, r, ht, hz⟩ := I4.list hx
    have hlen := r.length
    refine tail_any (ops := [.ref a, .ref s2.heap.objs.size]) ht.isList.typeIs slot_list_getitem.lookup ?_ (by with_unfolding_all rfl)
    refine wpAny_getItem_list_slice ht.isList hs .none .none (.int _ _) (by simp) ?_ (by rw [List.size_toArray] <;> omega)
    rw [PySem.W.krv_pick]
    refine ⟨.ref _, _, I4.laid (t' := s2.toks) (o := .lst xs.reverse) (fun b ob q => Heap.get?_push_of_some _ q) (Nat.le_refl _) ?_, rfl, q _ (I4.hok.fresh (Nat.le_refl _))⟩
    exact ⟨by rw [List.length_reverse]; exact hz, _, 0, r.reverse, Heap.get?_push_size _ rfl⟩
  · cases r1
    obtain ⟨its, r, ht, hz⟩ := I4.tuple hx
    have hlen := r.length
    refine tail_any (ops := [.ref a, .ref s2.heap.objs.size]) ht.typeIs PyProof.Rows.slot_tuple_getitem.lookup ?_ (by with_unfolding_all rfl)
    refine HT.getItem_tuple_rev ht hs (.int _ _) ?_ (by rw [List.size_toArray]; omega)
    refine ⟨.ref _, _, I4.laid (t' := s2.toks) (o := .tup xs.reverse) (fun b ob q => Heap.get?_push_of_some _ q) (Nat.le_refl _) ?_, rfl, q _ (I4.hok.fresh (Nat.le_refl _))⟩
    refine ⟨by rw [List.length_reverse]; exact hz, its.reverse, r.reverse, ?_⟩
    exact IsTup.new _ _
end
end L2

namespace MI
open PySem L2
/-! ### a[i] -/
def opIx : S → RV → RV → Res RV := fun s a b => match asInt b with
  | none => .stuck
  | some i => match asTup a with
    | some xs => (match atI xs i with
      | some d => .ok (.d d) s
      | none => .stuck)
    | none => match asLst s a with
      | some xs => (match atI xs i with
        | some d => .ok (.d d) s
        | none => .stuck)
      | none => match asStr a with
        | some z => if z.length ≤ sizeLine then (match atI z.cps.toList i with
          | some c => .ok (.d (.str ⟨#[c]⟩)) s
          | none => .stuck) else .stuck
        | none => .stuck
theorem atI_rep {K : PySem.W.Frag} {g : G} {vs : List V} {ds : List D} {i : Int} {d : D} (r : RepL K g vs ds) (e : atI ds i = some d) : ∃ v, atI vs i = some v ∧ Rep K g v d := by
  unfold atI at e ⊢
  rw [r.length]
  cases h : ixN ds.length i with
  | none => rw [h] at e; cases e
  | some j =>
    rw [h] at e
    exact r.get e
section
variable {X : Cx} {W : WX} {a b e : Expr} {ma mb me : M} {pos p2 : Pos}
theorem os_ix : OpS X W (rIx X.K) opIx := by
  intro σ g s H Q x y ra rb ok rx ry nn q
  unfold opIx at q
  split at q
  · exact q.elim
  · rename_i i e1
    have ey := asInt_ok ry e1
    split at q
    · rename_i xs e2
      split at q
      · rename_i d e3
        obtain ⟨p, vs, rfl, h, r⟩ := asTup_ok ok rx e2
        obtain ⟨v, hv, rv⟩ := atI_rep r e3
        exact .inr (.inl ⟨p, vs, i, v, rfl, ey, h, hv, kE_d q ok (Rep.mono (GLe.refl _) rv)⟩)
      · exact q.elim
    · split at q
      · rename_i xs e2
        split at q
        · rename_i d e3
          obtain ⟨p, vs, rfl, h, r⟩ := asLst_ok ok rx e2
          obtain ⟨v, hv, rv⟩ := atI_rep r e3
          exact .inl ⟨p, vs, i, v, rfl, ey, .of h, hv, kE_d q ok rv⟩
        · exact q.elim
      · split at q
        · rename_i z e2
          split at q
          · rename_i hz
            split at q
            · rename_i c e3
              exact .inr (.inr ⟨z, i, c, asStr_ok rx e2, ey, hz, e3, kE_d q ok (.str _)⟩)
            · exact q.elim
          · exact q.elim
        · exact q.elim
theorem me_ix (ha : ME X W a ma) (hb : ME X W b mb) (hs : PlainIx b := by exact fun _ _ => rfl) : ME X W (.Subscript a b pos) (mBin opIx ma mb) :=
  pe_imp (pe_ix ix_seq ha hb hs) fun _ _ _ ⟨_, _, ok, h⟩ => tOp_of os_ix ok h
/-! ### a[i:j] -/
def MO (X : Cx) (W : WX) (e : Option Expr) (m : S → Res (Option Int)) : Prop :=
  PO X e (fun σ H Q => ∃ g s, Ok X.K g s σ H ∧ PostE X.K W σ g s H (fun r _ _ H => Q r H) (m s))
def mNoPart : S → Res (Option Int) := fun s => .ok none s
def mPart (m : M) : S → Res (Option Int) := fun s => (m s).bind fun r s1 => match asInt r with
  | some i => .ok (some i) s1
  | none => .stuck
theorem po_imp {e : Option Expr} {t t' : TO} (h : PO X e t) (i : ∀ σ H Q, t' σ H Q → t σ H Q) : PO X e t' :=
  ⟨fun pins s σ H Q I q => h.run pins s σ H Q I (i σ H Q q)⟩
theorem mo_none : MO X W none mNoPart := po_imp po_none fun σ H Q ⟨g, s, ok, h⟩ => PostE.done (W := W) h ok
theorem mo_some (h : ME X W e me) : MO X W (some e) (mPart me) := by
  refine po_imp (po_some h) fun σ H Q ⟨g, s, ok, h⟩ => ⟨g, s, ok, (PostE.bind h).mono fun r g1 s1 H1 t1 k1 o1 h1 v rv => ?_⟩
  split at h1
  · rename_i i e
    exact ⟨i, asInt_ok rv e, PostE.done (W := W) h1 o1⟩
  · exact h1.elim
def cut {α : Type} (xs : List α) (lo hi : Option Int) : List α := (xs.drop (HT.sIx xs.length 0 lo)).take (HT.sIx xs.length xs.length hi - HT.sIx xs.length 0 lo)
theorem cut_rep {K : PySem.W.Frag} {g : G} {vs : List V} {ds : List D} (r : RepL K g vs ds) (lo hi : Option Int) : RepL K g (cutV vs lo hi) (cut ds lo hi) := by
  unfold cutV cut
  rw [r.length]
  exact (r.drop _).take _
def asScr : RV → Option (List D)
  | .d (.scr xs) => some xs
  | _ => none
theorem asScr_ok {K : PySem.W.Frag} {σ : St} {g : G} {s : S} {H : Hp} {v : V} {r : RV} {xs : List D} (ok : Ok K g s σ H) (h : RepRV K g s H v r) (e : asScr r = some xs) : ∃ a vs, v = .ref a ∧ SqL K H a vs ∧ RepL K g vs xs := by
  cases r with
  | d x =>
    cases x with
    | scr ys =>
      cases e
      cases (show Rep K g v _ from h) with
      | scr h1 r => exact ⟨_, _, rfl, sqL_mono ok.sub h1, r⟩
    | _ => cases e
  | «at» i => cases e
  | new o => cases e
def opSl (lo hi : Option Int) : S → RV → Res RV := fun s a => match asTup a with
  | some xs => .ok (.d (.tup (cut xs lo hi))) s
  | none => match asLst s a with
    | some xs => .ok (.new (.lst (cut xs lo hi))) s
    | none => match asScr a with
     | some xs => .ok (.new (.lst (cut xs lo hi))) s
     | none => match asStr a with
      | some z => if z.length ≤ sizeLine then .ok (.d (.str (cutS z lo hi))) s else .stuck
      | none => .stuck
def mSlice (a : M) (lo hi : S → Res (Option Int)) : M := fun s => (mSettle a s).bind fun x s1 => (lo s1).bind fun l s2 => (hi s2).bind fun u s3 => opSl l u s3 x
def rSlM (K : PySem.W.Frag) : V → Option Int → Option Int → Hp → VK → Prop := fun x lo hi H Q => rSlA K x lo hi H Q ∨ rSlL K x lo hi H Q ∨ rSlS x lo hi H Q
theorem sl_M : SlR X (rSlM X.K) := sl_tupA.or (sl_list.or sl_str)
theorem cut_whole {α : Type} {xs : List α} {lo hi : Option Int} (h : HT.sIx xs.length 0 lo = 0 ∧ HT.sIx xs.length xs.length hi = xs.length) : cut xs lo hi = xs := by
  unfold cut
  rw [h.1, h.2]
  simp
theorem me_slice {lo hi : Option Expr} {ml mh : S → Res (Option Int)} (ha : ME X W a ma) (hl : MO X W lo ml) (hh : MO X W hi mh) : ME X W (.Subscript a (.Slice lo hi none p2) pos) (mSlice ma ml mh) := by
  refine pe_imp (pe_slice sl_M ha hl hh) fun σ H Q ⟨g, s, ok, h⟩ => ?_
  refine tM_settle ok (PostE.bind h) fun x g1 s1 H1 v t1 k1 o1 rv nn h1 => ?_
  refine ⟨g1, s1, o1, (PostE.bind h1).mono fun l g2 s2 H2 t2 k2 o2 h2 => ?_⟩
  refine ⟨g2, s2, o2, (PostE.bind h2).mono fun u g3 s3 H3 t3 k3 o3 h3 => ?_⟩
  have rv2 : RepRV X.K g2 s2 H2 v x := rv.held nn t2 k2
  have rv3 : RepRV X.K g3 s3 H3 v x := rv2.held nn t3 k3
  unfold opSl at h3
  split at h3
  · rename_i xs e
    obtain ⟨p, vs, rfl, hq, r⟩ := asTup_ok o3 rv3 e
    refine .inl ⟨p, vs, rfl, hq, fun z => ?_, fun z p hp => kE_tup h3 o3 hp (cut_rep r l u)⟩
    rw [r.length] at z
    rw [cut_whole z] at h3
    cases x with
    | d w =>
      cases w <;> first | cases e
      exact kE_d h3 o3 rv3
    | «at» _ => cases e
    | new _ => cases e
  · split at h3
    · rename_i xs e
      obtain ⟨p, vs, rfl, hq, r⟩ := asLst_ok o3 rv3 e
      exact .inr (.inl ⟨p, vs, rfl, .of hq, fun p hp => kE_new h3 o3 hp ⟨_, upd_same, cut_rep r l u⟩⟩)
    · split at h3
      · rename_i xs e
        obtain ⟨p, vs, rfl, hq, r⟩ := asScr_ok o3 rv3 e
        exact .inr (.inl ⟨p, vs, rfl, hq, fun p hp => kE_new h3 o3 hp ⟨_, upd_same, cut_rep r l u⟩⟩)
      · split at h3
        · rename_i z e
          split at h3
          · rename_i hz
            exact .inr (.inr ⟨z, asStr_ok rv3 e, hz, kE_d h3 o3 (.str _)⟩)
          · exact h3.elim
        · exact h3.elim
/-- a[::-1] -/
def opRev : S → RV → RV → Res RV := fun s a b => match asInt b with
  | some i => if i = -1 then (match asTup a with
    | some xs => .ok (.d (.tup xs.reverse)) s
    | none => match asLst s a with
      | some xs => .ok (.new (.lst xs.reverse)) s
      | none => .stuck) else .stuck
  | none => .stuck
theorem me_rev (ha : ME X W a ma) (hb : ME X W b mb) : ME X W (.Subscript a (.Slice none none (some b) p2) pos) (mBin opRev ma mb) := by
  refine pe_imp (pe_rev ha hb) fun σ H Q ⟨g, s, ok, h⟩ => ?_
  refine tM_settle ok (PostE.bind h) fun x g1 s1 H1 v t1 k1 o1 rv nn h1 => ?_
  refine ⟨g1, s1, o1, (PostE.bind h1).mono fun y g2 s2 H2 t2 k2 o2 h2 u ru => ?_⟩
  have rv2 : RepRV X.K g2 s2 H2 v x := rv.held nn t2 k2
  unfold opRev at h2
  split at h2
  · rename_i i e1
    by_cases hi : i = -1
    case neg => rw [if_neg hi] at h2; exact h2.elim
    rw [if_pos hi] at h2
    subst hi
    refine ⟨asInt_ok ru e1, ?_⟩
    split at h2
    · rename_i xs e
      obtain ⟨p, vs, rfl, hq, r⟩ := asTup_ok o2 rv2 e
      exact .inr ⟨p, vs, rfl, hq, fun p hp => kE_tup h2 o2 hp r.reverse⟩
    · split at h2
      · rename_i xs e
        obtain ⟨p, vs, rfl, hq, r⟩ := asLst_ok o2 rv2 e
        exact .inl ⟨p, vs, rfl, .of hq, fun p hp => kE_new h2 o2 hp ⟨_, upd_same, r.reverse⟩⟩
      · exact h2.elim
  · exact h2.elim
end
end MI
/-! # Built-in functions, methods of lists -/
namespace MI
open PySem L2

section
variable {K : PySem.W.Frag} {W : WX} {σ : St} {g : G} {s : S} {H : Hp}
/-- a built-in function of one value that makes nothing -/
def mFn1 (f : S → RV → Res RV) (m : M) : M := fun s => (m s).bind fun r s1 => f s1 r
end
section
variable {X : Cx} {W : WX} {e a b c : Expr} {me ma mb mc : M} {pos p : Pos} {x : Str}
/-- one argument that is not given away -/
theorem ma_one {r : List V → Hp → VK → Prop} {f : S → RV → Res RV}
    (hf : ∀ (σ : St) (g : G) (s : S) (H : Hp) (Q : VK) (v : V) (rv : RV), Ok X.K g s σ H → RepRV X.K g s H v rv → PostE X.K W σ g s H (kE X.K Q) (f s rv) → r [v] H Q)
    {σ : St} {H : Hp} {Q : VK} {g : G} {s : S} (ok : Ok X.K g s σ H) (h : PostE X.K W σ g s H (kE X.K Q) (mFn1 f me s)) : tCB r (tCons (tM X.K W me) tNil) σ H Q :=
  ⟨g, s, ok, (PostE.bind h).mono fun rv g1 s1 H1 t1 k1 o1 h1 v rr => hf σ g1 s1 H1 Q v rv o1 rr h1⟩
/-! ### len -/
def lenD : D → Option Nat
  | .str y => if y.length ≤ sizeLine then some y.length else none
  | .tup xs => some xs.length
  | .lst xs => some xs.length
  | .dic xs => some xs.length
  | .scr xs => some xs.length
  | _ => none
def fLen : S → RV → Res RV := fun s r => match (asD s r).bind lenD with
  | some n => .ok (.d (.int n)) s
  | none => .stuck
theorem call_lenM (hc : True) : CallR X (.builtin "len") (fun xs H Q => (∃ x n, xs = [x] ∧ LenV X.K x H n ∧ Q (.int n) H) ∨ ∃ p kvs, xs = [.ref p] ∧ H p = some (.dK kvs) ∧ Q (.int kvs.length) H) := by
  intro pins s σ H xs us Q I r h
  rcases h with h | ⟨p, kvs, rfl, hp, q⟩
  · exact call_len pins s σ H xs us Q I r h
  · exact call_lenD pins s σ H _ us Q I r ⟨p, kvs, rfl, hp, q⟩
theorem RepK.length {K : PySem.W.Frag} {g : G} : ∀ {v : List (Key × V)} {d : List (Key × D)}, RepK K g v d → v.length = d.length
  | _, _, .nil => rfl
  | _, _, .cons _ b => by rw [List.length_cons, List.length_cons, RepK.length b]
theorem me_len (ha : ME X W a ma) (hg : Gl X "len") (hm : X.mg "len" = none) (hs : starEach [a] X.env = (false, eval a X.env) :: starEach [] X.env := by rfl) : ME X W (.Call (.Name "len" p) [a] [] pos) (mFn1 fLen ma) := by
  refine pe_imp (pe_callB (call_lenM trivial) hg hm PySem.boot_len (pa_cons ha pa_nil hs) (he := hs)) fun σ H Q ⟨g, s, ok, h⟩ => ma_one (fun σ g s H Q v rv ok rr h => ?_) ok h
  unfold fLen at h
  cases e : (asD s rv).bind lenD with
  | none => simp only [e] at h; exact h.elim
  | some n =>
    simp only [e] at h
    cases e1 : asD s rv with
    | none => rw [e1] at e; cases e
    | some d =>
      rw [e1] at e
      have e2 : lenD d = some n := e
      obtain ⟨g1, l, sb, rp⟩ := asD_ok ok (GLe.refl g) ok.sub rr e1
      have fin := kE_d h ok (.int n)
      cases rp with
      | str x =>
        simp only [lenD] at e2
        split at e2
        · rename_i hl
          cases e2
          exact .inl ⟨_, _, rfl, ⟨hl, rfl⟩, fin⟩
        · cases e2
      | tup h1 r1 => cases e2; exact .inl ⟨_, _, rfl, .inr ⟨_, sqT_mono sb h1, rfl⟩, by rw [r1.length]; exact fin⟩
      | lst h1 r1 => cases e2; exact .inl ⟨_, _, rfl, .inl ⟨_, .of (sb _ _ h1), rfl⟩, by rw [r1.length]; exact fin⟩
      | scr h1 r1 => cases e2; exact .inl ⟨_, _, rfl, .inl ⟨_, sqL_mono sb h1, rfl⟩, by rw [r1.length]; exact fin⟩
      | dic h1 r1 => cases e2; exact .inr ⟨_, _, rfl, sb _ _ h1, by rw [r1.length]; exact fin⟩
      | _ => cases e2
/-! ### int, abs, list, tuple, min, max -/
def fInt : S → RV → Res RV := fun s r => match r with
  | .d (.int i) => .ok (.d (.int i)) s
  | .d (.bl k) => .ok (.d (.int (if k then 1 else 0))) s
  | _ => .stuck
theorem me_toInt (ha : ME X W a ma) (hg : Gl X "int") (hm : X.mg "int" = none) (hs : starEach [a] X.env = (false, eval a X.env) :: starEach [] X.env := by rfl) : ME X W (.Call (.Name "int" p) [a] [] pos) (mFn1 fInt ma) := by
  refine pe_imp (pe_callTy call_int1 hg hm (by decide +kernel) (pa_cons ha pa_nil hs) (he := hs)) fun σ H Q ⟨g, s, ok, h⟩ => ma_one (fun σ g s H Q v rv ok rr h => ?_) ok h
  unfold fInt at h
  split at h
  · cases (show Rep _ _ _ _ from rr); exact .inl ⟨_, rfl, kE_d h ok (.int _)⟩
  · cases (show Rep _ _ _ _ from rr); exact .inr ⟨_, rfl, kE_d h ok (.int _)⟩
  · exact h.elim
def fAbs : S → RV → Res RV := fun s r => match asInt r with
  | some i => .ok (.d (.int (if i < 0 then -i else i))) s
  | none => .stuck
theorem me_abs (ha : ME X W a ma) (hg : Gl X "abs") (hm : X.mg "abs" = none) (hs : starEach [a] X.env = (false, eval a X.env) :: starEach [] X.env := by rfl) : ME X W (.Call (.Name "abs" p) [a] [] pos) (mFn1 fAbs ma) := by
  refine pe_imp (pe_callB call_abs hg hm (by decide +kernel) (pa_cons ha pa_nil hs) (he := hs)) fun σ H Q ⟨g, s, ok, h⟩ => ma_one (fun σ g s H Q v rv ok rr h => ?_) ok h
  unfold fAbs at h
  split at h
  · rename_i i e; rw [asInt_ok rr e]; exact ⟨_, rfl, kE_d h ok (.int _)⟩
  · exact h.elim
def fList : S → RV → Res RV := fun s r => match asItems s r with
  | some xs => .ok (.new (.lst xs)) s
  | none => .stuck
theorem asItems_ok {K : PySem.W.Frag} {σ : St} {g : G} {s : S} {H : Hp} {v : V} {r : RV} {xs : List D} (ok : Ok K g s σ H) (h : RepRV K g s H v r) (e : asItems s r = some xs) :
    ∃ a vs, v = .ref a ∧ (SqL K H a vs ∨ SqT K H a vs) ∧ RepL K g vs xs := by
  unfold asItems at e
  split at e
  · rename_i zs e3
    cases e
    obtain ⟨a, vs, rfl, h, r2⟩ := asTup_ok ok h e3
    exact ⟨a, vs, rfl, .inr h, r2⟩
  · obtain ⟨a, vs, rfl, h, r2⟩ := asLst_ok ok h e
    exact ⟨a, vs, rfl, .inl (.of h), r2⟩
theorem me_list (ha : ME X W a ma) (hg : Gl X "list") (hm : X.mg "list" = none) (hs : starEach [a] X.env = (false, eval a X.env) :: starEach [] X.env := by rfl) : ME X W (.Call (.Name "list" p) [a] [] pos) (mFn1 fList ma) := by
  refine pe_imp (pe_callTy call_list_of hg hm (by decide +kernel) (pa_cons ha pa_nil hs) (he := hs)) fun σ H Q ⟨g, s, ok, h⟩ => ma_one (fun σ g s H Q v rv ok rr h => ?_) ok h
  unfold fList at h
  split at h
  · rename_i xs e
    obtain ⟨p, vs, rfl, hq, r⟩ := asItems_ok ok rr e
    exact ⟨p, vs, rfl, hq, fun l hl => kE_new h ok hl ⟨_, upd_same, r⟩⟩
  · exact h.elim
def fTuple : S → RV → Res RV := fun s r => match asItems s r with
  | some xs => .ok (.d (.tup xs)) s
  | none => .stuck
theorem me_tuple (ha : ME X W a ma) (hg : Gl X "tuple") (hm : X.mg "tuple" = none) (hs : starEach [a] X.env = (false, eval a X.env) :: starEach [] X.env := by rfl) : ME X W (.Call (.Name "tuple" p) [a] [] pos) (mFn1 fTuple ma) := by
  refine pe_imp (pe_callTy call_tuple_of hg hm (by decide +kernel) (pa_cons ha pa_nil hs) (he := hs)) fun σ H Q ⟨g, s, ok, h⟩ => ma_one (fun σ g s H Q v rv ok rr h => ?_) ok h
  unfold fTuple at h
  split at h
  · rename_i xs e
    unfold asItems at e
    split at e
    · rename_i zs e3
      cases e
      obtain ⟨a, vs, rfl, hq, r⟩ := asTup_ok ok rr e3
      refine ⟨a, vs, rfl, .inr ⟨hq, ?_⟩⟩
      cases rv with
      | d w =>
        cases w <;> first | cases e3
        exact kE_d h ok rr
      | «at» _ => cases e3
      | new _ => cases e3
    · obtain ⟨a, vs, rfl, hq, r⟩ := asLst_ok ok rr e
      exact ⟨a, vs, rfl, .inl ⟨.of hq, fun l hl => kE_tup h ok hl r⟩⟩
  · exact h.elim
/-- min, max of two or three ints -/
def intsOf : List D → Option (List Int)
  | [] => some []
  | .int i :: r => (intsOf r).map (i :: ·)
  | _ :: _ => none
def minI : Int → Int → Int := fun i j => if j < i then j else i
def maxI : Int → Int → Int := fun i j => if j > i then j else i
def mFn2 (f : Int → Int → Int) (m : S → Res (List D)) : M := fun s => (m s).bind fun ds s1 => match ds with
  | [.int i, .int j] => .ok (.d (.int (f i j))) s1
  | _ => .stuck
def mFn3 (f : Int → Int → Int) (m : S → Res (List D)) : M := fun s => (m s).bind fun ds s1 => match ds with
  | [.int i, .int j, .int k] => .ok (.d (.int (f (f i j) k))) s1
  | _ => .stuck
theorem nuMin2_int (i j : Int) : nuMin2 (.int i) (.int j) = some (.int (minI i j)) := by
  show some (if decide (j < i) = true then V.int j else V.int i) = some (.int (if j < i then j else i))
  by_cases h : j < i <;> simp [h]
theorem nuMax2_int (i j : Int) : nuMax2 (.int i) (.int j) = some (.int (maxI i j)) := by
  show some (if decide (i < j) = true then V.int j else V.int i) = some (.int (if j > i then j else i))
  by_cases h : i < j <;> simp [h]
theorem mFn2_of {f : Int → Int → Int} {f' : V → V → Option V} {es : List Expr} {m : S → Res (List D)} (hf : ∀ i j, f' (.int i) (.int j) = some (.int (f i j))) {σ : St} {H : Hp} {Q : VK} {g : G} {s : S} (ok : Ok X.K g s σ H)
    (h : PostE X.K W σ g s H (kE X.K Q) (mFn2 f m s)) : tCB (rNuC2 f') (tMA X.K W m) σ H Q := by
  refine ⟨g, s, ok, (PostE.bind h).mono fun ds g1 s1 H1 t1 k1 o1 h1 vs rs => ?_⟩
  split at h1
  · cases rs with
    | cons r1 rs =>
      cases rs with
      | cons r2 rs =>
        cases rs
        cases r1; cases r2
        exact ⟨_, _, _, rfl, hf _ _, kE_d h1 o1 (.int _)⟩
  · exact h1.elim
theorem mFn3_of {f : Int → Int → Int} {f' : V → V → V → Option V} {es : List Expr} {m : S → Res (List D)} (hf : ∀ i j k, f' (.int i) (.int j) (.int k) = some (.int (f (f i j) k))) {σ : St} {H : Hp} {Q : VK} {g : G} {s : S} (ok : Ok X.K g s σ H)
    (h : PostE X.K W σ g s H (kE X.K Q) (mFn3 f m s)) : tCB (rNuC3 f') (tMA X.K W m) σ H Q := by
  refine ⟨g, s, ok, (PostE.bind h).mono fun ds g1 s1 H1 t1 k1 o1 h1 vs rs => ?_⟩
  split at h1
  · cases rs with
    | cons r1 rs =>
      cases rs with
      | cons r2 rs =>
        cases rs with
        | cons r3 rs =>
          cases rs
          cases r1; cases r2; cases r3
          exact ⟨_, _, _, _, rfl, hf _ _ _, kE_d h1 o1 (.int _)⟩
  · exact h1.elim
theorem nuMin3_int (i j k : Int) : nuMin3 (.int i) (.int j) (.int k) = some (.int (minI (minI i j) k)) := by
  unfold nuMin3; rw [nuMin2_int]; exact nuMin2_int _ _
theorem nuMax3_int (i j k : Int) : nuMax3 (.int i) (.int j) (.int k) = some (.int (maxI (maxI i j) k)) := by
  unfold nuMax3; rw [nuMax2_int]; exact nuMax2_int _ _
section
variable {m : S → Res (List D)}
theorem me_min2 (hc : X.calm = true) (hA : MA X W [a, b] m) (hg : Gl X "min") (hm : X.mg "min" = none) (hs : starEach [a, b] X.env = (false, eval a X.env) :: starEach [b] X.env := by rfl) (hpl : (backTo pos (starEach [b] X.env)).any (·.1) = false := by rfl) : ME X W (.Call (.Name "min" p) [a, b] [] pos) (mFn2 minI m) :=
  pe_imp (pe_callB (call_min2Nu hc) hg hm (by decide +kernel) hA (he := hs) (hpl := hpl)) fun σ H Q ⟨g, s, ok, h⟩ => mFn2_of (es := [a, b]) nuMin2_int ok h
theorem me_max2 (hc : X.calm = true) (hA : MA X W [a, b] m) (hg : Gl X "max") (hm : X.mg "max" = none) (hs : starEach [a, b] X.env = (false, eval a X.env) :: starEach [b] X.env := by rfl) (hpl : (backTo pos (starEach [b] X.env)).any (·.1) = false := by rfl) : ME X W (.Call (.Name "max" p) [a, b] [] pos) (mFn2 maxI m) :=
  pe_imp (pe_callB (call_max2Nu hc) hg hm (by decide +kernel) hA (he := hs) (hpl := hpl)) fun σ H Q ⟨g, s, ok, h⟩ => mFn2_of (es := [a, b]) nuMax2_int ok h
theorem me_min3 (hc : X.calm = true) (hA : MA X W [a, b, c] m) (hg : Gl X "min") (hm : X.mg "min" = none) (hs : starEach [a, b, c] X.env = (false, eval a X.env) :: starEach [b, c] X.env := by rfl) (hpl : (backTo pos (starEach [b, c] X.env)).any (·.1) = false := by rfl) : ME X W (.Call (.Name "min" p) [a, b, c] [] pos) (mFn3 minI m) :=
  pe_imp (pe_callB (call_min3Nu hc) hg hm (by decide +kernel) hA (he := hs) (hpl := hpl)) fun σ H Q ⟨g, s, ok, h⟩ => mFn3_of (es := [a, b, c]) nuMin3_int ok h
theorem me_max3 (hc : X.calm = true) (hA : MA X W [a, b, c] m) (hg : Gl X "max") (hm : X.mg "max" = none) (hs : starEach [a, b, c] X.env = (false, eval a X.env) :: starEach [b, c] X.env := by rfl) (hpl : (backTo pos (starEach [b, c] X.env)).any (·.1) = false := by rfl) : ME X W (.Call (.Name "max" p) [a, b, c] [] pos) (mFn3 maxI m) :=
  pe_imp (pe_callB (call_max3Nu hc) hg hm (by decide +kernel) hA (he := hs) (hpl := hpl)) fun σ H Q ⟨g, s, ok, h⟩ => mFn3_of (es := [a, b, c]) nuMax3_int ok h
end
/-! ### -a -/
def fNeg : S → RV → Res RV := fun s r => match asInt r with
  | some i => .ok (.d (.int (-i))) s
  | none => .stuck
theorem me_neg (ha : ME X W a ma) : ME X W (.UnaryOp .USub a pos) (mFn1 fNeg ma) := by
  refine pe_imp (pe_un un_neg ha) fun σ H Q ⟨g, s, ok, h⟩ => ⟨g, s, ok, (PostE.bind h).mono fun rv g1 s1 H1 t1 k1 o1 h1 v rr => ?_⟩
  unfold fNeg at h1
  split at h1
  · rename_i i e; exact ⟨i, asInt_ok rr e, kE_d h1 o1 (.int _)⟩
  · exact h1.elim
/-! ### all, any of a list of bools -/
def blsOf : List D → Option (List Bool)
  | [] => some []
  | .bl b :: r => (blsOf r).map (b :: ·)
  | _ :: _ => none
theorem blsOf_ok {K : PySem.W.Frag} {g : G} : ∀ {vs : List V} {ds : List D} {bs : List Bool}, RepL K g vs ds → blsOf ds = some bs → vs = bs.map V.bl
  | _, _, _, .nil, e => by cases e; rfl
  | _, _, bs, .cons (d := d) a b, e => by
    cases d with
    | bl k =>
      cases a
      simp only [blsOf] at e
      obtain ⟨cs, e1, rfl⟩ := Option.map_eq_some_iff.mp e
      rw [blsOf_ok b e1]; rfl
    | _ => cases e
def fAll : S → RV → Res RV := fun s r => match (asLst s r).bind blsOf with
  | some bs => .ok (.d (.bl (bs.all id))) s
  | none => .stuck
def fAny : S → RV → Res RV := fun s r => match (asLst s r).bind blsOf with
  | some bs => .ok (.d (.bl (bs.any id))) s
  | none => .stuck
theorem bls_seq {K : PySem.W.Frag} {σ : St} {g : G} {s : S} {H : Hp} {v : V} {r : RV} {bs : List Bool} (ok : Ok K g s σ H) (h : RepRV K g s H v r) (e : (asLst s r).bind blsOf = some bs) : ∃ a, v = .ref a ∧ SqL K H a (bs.map V.bl) := by
  cases e1 : asLst s r with
  | none => rw [e1] at e; cases e
  | some xs =>
    rw [e1] at e
    obtain ⟨a, vs, rfl, hq, r⟩ := asLst_ok ok h e1
    have := blsOf_ok r e
    subst this
    exact ⟨a, rfl, .of hq⟩
theorem me_all (hc : X.calm = true) (ha : ME X W a ma) (hg : Gl X "all") (hm : X.mg "all" = none) (hs : starEach [a] X.env = (false, eval a X.env) :: starEach [] X.env := by rfl) : ME X W (.Call (.Name "all" p) [a] [] pos) (mFn1 fAll ma) := by
  refine pe_imp (pe_callB (cr_all hc) hg hm (by decide +kernel) (pa_cons ha pa_nil hs) (he := hs)) fun σ H Q ⟨g, s, ok, h⟩ => ma_one (fun σ g s H Q v rv ok rr h => ?_) ok h
  unfold fAll at h
  split at h
  · rename_i bs e
    obtain ⟨p, rfl, hq⟩ := bls_seq ok rr e
    exact ⟨p, bs, rfl, hq, kE_d h ok (.bl _)⟩
  · exact h.elim
theorem me_any (hc : X.calm = true) (ha : ME X W a ma) (hg : Gl X "any") (hm : X.mg "any" = none) (hs : starEach [a] X.env = (false, eval a X.env) :: starEach [] X.env := by rfl) : ME X W (.Call (.Name "any" p) [a] [] pos) (mFn1 fAny ma) := by
  refine pe_imp (pe_callB (cr_any hc) hg hm (by decide +kernel) (pa_cons ha pa_nil hs) (he := hs)) fun σ H Q ⟨g, s, ok, h⟩ => ma_one (fun σ g s H Q v rv ok rr h => ?_) ok h
  unfold fAny at h
  split at h
  · rename_i bs e
    obtain ⟨p, rfl, hq⟩ := bls_seq ok rr e
    exact ⟨p, bs, rfl, hq, kE_d h ok (.bl _)⟩
  · exact h.elim
/-! ### isinstance with a built-in class -/
inductive Ty where
  | int | str | bool | tup | lst | dic
def Ty.name : Ty → String
  | .int => "int" | .str => "str" | .bool => "bool" | .tup => "tuple" | .lst => "list" | .dic => "dict"
def isTy : Ty → D → Bool
  | .int, .int _ => true
  | .int, .bl _ => true
  | .bool, .bl _ => true
  | .str, .str _ => true
  | .tup, .tup _ => true
  | .lst, .lst _ => true
  | .dic, .dic _ => true
  | _, _ => false
def tyD : D → Option String
  | .non => some "NoneType" | .bl _ => some "bool" | .int _ => some "int" | .str _ => some "str" | .tup _ => some "tuple" | .lst _ => some "list" | .dic _ => some "dict" | .ref _ => none | .scr _ => none
theorem isTy_kit : ∀ (T : Ty) (d : D) (t : String), tyD d = some t → kitB t T.name = some (isTy T d) := by
  intro T d t e
  cases d <;> cases e <;> cases T <;> (simp only [isTy, Ty.name]; decide +kernel)
def fIsi (T : Ty) : S → RV → Res RV := fun s r => match asD s r with
  | some d => match tyD d with
    | some _ => .ok (.d (.bl (isTy T d))) s
    | none => .stuck
  | none => .stuck
theorem tyX_of {K : PySem.W.Frag} {g : G} {H : Hp} {v : V} {d : D} {t : String} (sb : Sub g.F H) (r : Rep K g v d) (e : tyD d = some t) : TyX K H v (.type t) := by
  cases r with
  | non => cases e; exact .base .non
  | bl b => cases e; exact .base (.bl b)
  | int i => cases e; exact .base (.int i)
  | str x => cases e; exact .base (.str x)
  | tup h _ =>
    cases e
    rcases sqT_mono sb h with (h | ⟨o, h⟩) | ⟨o, _, _, hk, hc, _⟩
    · exact .base (.tup h)
    · exact .fTuple h
    · exact .kTuple hk hc
  | lst h _ => cases e; exact .base (.lst (sb _ _ h))
  | dic h _ => cases e; exact .base (.dK (sb _ _ h))
  | ref _ _ => cases e
  | scr _ _ => cases e
theorem me_isi {T : Ty} {tn : Str} {p2 : Pos} (ha : ME X W a ma) (hg : Gl X "isinstance") (hm : X.mg "isinstance" = none) (hg2 : Gl X tn) (hm2 : X.mg tn = none) (hv : bootBuiltins tn = some (.type T.name)) (hn : tn ≠ "__name__" := by decide) (hdb : (tn == ("__debug__" : Str)) = false := by decide)
    (hs : starEach [a, .Name tn p2] X.env = (false, eval a X.env) :: starEach [.Name tn p2] X.env := by rfl) (hs2 : starEach [.Name tn p2] X.env = (false, eval (.Name tn p2) X.env) :: starEach [] X.env := by rfl) (hpl : (backTo pos (starEach [.Name tn p2] X.env)).any (·.1) = false := by rfl) :
    ME X W (.Call (.Name "isinstance" p) [a, .Name tn p2] [] pos) (mFn1 (fIsi T) ma) := by
  refine pe_imp (pe_callB call_isi hg hm (by decide +kernel) (pa_cons ha (pa_cons (pe_bltn (v := .ty T.name) hg2 hm2 hv rfl hn hdb) pa_nil hs2) hs) (he := hs) (hpl := hpl)) fun σ H Q ⟨g, s, ok, h⟩ => ?_
  refine ⟨g, s, ok, (PostE.bind h).mono fun rv g1 s1 H1 t1 k1 o1 h1 v rr => ?_⟩
  unfold fIsi at h1
  split at h1
  · rename_i d e1
    split at h1
    · rename_i t e2
      obtain ⟨g2, l, sb, rp⟩ := asD_ok o1 (GLe.refl g1) o1.sub rr e1
      exact ⟨v, .ty T.name, .type t, .type T.name, isTy T d, rfl, .ty _, tyX_of sb rp e2, kit_ty (isTy_kit T d t e2), kE_d h1 o1 (.bl _)⟩
    · exact h1.elim
  · exact h1.elim
end

/-! ### the store's objects are changed -/
@[simp] def locOf : RV → Option Loc
  | .at i => some (.sl i)
  | .d (.ref n) => some (.gl n)
  | _ => none
def setCell (s : S) (l : Loc) (o : MObj) : S := match l with
  | .sl i => { s with env := s.env.set i (.own o) }
  | .gl n => { s with gl := s.gl.set n o }
section
variable {K : PySem.W.Frag} {W : WX} {σ : St} {g : G} {s : S} {H : Hp}
theorem locOf_ok {v : V} {r : RV} {l : Loc} (h : RepRV K g s H v r) (e : locOf r = some l) : v = .ref (g.adr l) := by
  cases r with
  | d x =>
    cases x <;> first | cases e
    cases (show Rep K g v _ from h); rfl
  | «at» i => cases e; exact h
  | new o => cases e
theorem cellOf_setCell {l l' : Loc} {o o' w : MObj} (h : cellOf s l = some o) (e : cellOf (setCell s l o') l' = some w) : (l' = l ∧ w = o') ∨ (l' ≠ l ∧ cellOf s l' = some w) := by
  cases l with
  | sl i =>
    have hi : i < s.env.length := by
      have h' : (match s.env[i]? with | some (.own o) => some o | _ => none) = some o := h
      split at h'
      · rename_i e; exact (List.getElem?_eq_some_iff.mp e).1
      · cases h'
    rcases cellOf_set hi e with ⟨z, z2⟩ | z
    · cases z2; exact .inl ⟨z, rfl⟩
    · exact .inr z
  | gl n =>
    have hn : n < s.gl.length := (List.getElem?_eq_some_iff.mp h).1
    cases l' with
    | sl j => exact .inr ⟨(fun z => nomatch z), e⟩
    | gl m =>
      have e' : (s.gl.set n o')[m]? = some w := e
      by_cases z : m = n
      · subst z; rw [List.getElem?_set_self hn] at e'; cases e'; exact .inl ⟨rfl, rfl⟩
      · rw [List.getElem?_set_ne (Ne.symm z)] at e'; exact .inr ⟨fun q => z (by cases q; rfl), e'⟩
/-- the object at l is changed -/
theorem Ok.change {l : Loc} {o o' : MObj} {ho : HO} (ok : Ok K g s σ H) (h : cellOf s l = some o) (r : ObjRep K g (upd H (g.adr l) ho) (g.adr l) o') :
    Ok K g (setCell s l o') σ (upd H (g.adr l) ho) ∧ Step g H g (upd H (g.adr l) ho) := by
  obtain ⟨f, q⟩ := ok.cell l o h
  have np : ¬ g.P (g.adr l) := fun p => (ok.prot _ p).2.2 ⟨l, o, h, rfl⟩
  have cs : ∀ {l' w}, cellOf (setCell s l o') l' = some w → ∃ w', cellOf s l' = some w' := fun e => by
    rcases cellOf_setCell h e with ⟨rfl, _⟩ | ⟨_, z⟩
    · exact ⟨o, h⟩
    · exact ⟨_, z⟩
  refine ⟨⟨fun b u e => ?_, fun l' w e => ?_, fun l1 l2 w1 w2 e1 e2 z => ?_, fun i x e => ?_, ?_, ?_, fun b p => ?_⟩, GLe.refl _, rfl, fun b p => upd_ne fun z => np (by rw [← z]; exact p)⟩
  · rw [upd_ne (fun z => by rw [z, f] at e; cases e)]; exact ok.sub b u e
  · rcases cellOf_setCell h e with ⟨rfl, rfl⟩ | ⟨hl, z⟩
    · exact ⟨f, r⟩
    · obtain ⟨f', r'⟩ := ok.cell l' w z
      exact ⟨f', r'.mono (GLe.refl _) (upd_ne fun q => hl (ok.inj _ _ _ _ z h q))⟩
  · obtain ⟨w1', h1⟩ := cs e1
    obtain ⟨w2', h2⟩ := cs e2
    exact ok.inj _ _ _ _ h1 h2 z
  · cases l with
    | gl n => exact ok.env i x e
    | sl j =>
      have hj : j < s.env.length := by
        have h' : (match s.env[j]? with | some (.own o) => some o | _ => none) = some o := h
        split at h'
        · rename_i e; exact (List.getElem?_eq_some_iff.mp e).1
        · cases h'
      have e' : (s.env.set j (.own o'))[i]? = some x := e
      by_cases z : i = j
      · subst z
        rw [List.getElem?_set_self hj] at e'
        cases e'
        have h' : (match s.env[i]? with | some (.own o) => some o | _ => none) = some o := h
        split at h'
        · rename_i e; have q := ok.env i _ e; exact q
        · cases h'
      · rw [List.getElem?_set_ne (Ne.symm z)] at e'
        exact ok.env i x e'
  · cases l with
    | gl n => exact ok.len
    | sl j => exact (List.length_set ..).trans ok.len
  · cases l with
    | gl n => exact ok.ng.trans (List.length_set ..).symm
    | sl j => exact ok.ng
  · obtain ⟨h1, h2, h3⟩ := ok.prot b p
    refine ⟨?_, h2, fun ⟨l', w, e, z⟩ => ?_⟩
    · rw [upd_ne (fun z => np (by rw [← z]; exact p))]; exact h1
    · obtain ⟨w', h'⟩ := cs e
      exact h3 ⟨l', w', h', z⟩
theorem setCell_keep {l : Loc} {o : MObj} {r : RV} {v : V} {ho : HO} : True := trivial
/-- the end of a method that changes its receiver -/
theorem kE_change {Q : VK} {l : Loc} {o o' : MObj} {ho : HO} {v : V} {x : D} (ok : Ok K g s σ H) (h : cellOf s l = some o) (r : ObjRep K g (upd H (g.adr l) ho) (g.adr l) o') (rx : Rep K g v x)
    (q : PostE K W σ g s H (kE K Q) (.ok (.d x) (setCell s l o'))) : Q v (upd H (g.adr l) ho) := by
  obtain ⟨o1, t1⟩ := ok.change h r
  exact q g _ t1 (SlKeep.refl _) o1 v rx
theorem cell_lst {l : Loc} {xs : List D} (ok : Ok K g s σ H) (h : cellOf s l = some (.lst xs)) : ∃ vs, H (g.adr l) = some (.lst vs) ∧ RepL K g vs xs := (ok.cell l _ h).2
end
/-- a method of a list with one argument given away -/
def mLm1 (f : List D → D → Option (D × List D)) (o a : M) : M := fun s => (o s).bind fun r s1 => match locOf r with
  | some l => (match cellOf s1 l with
    | some (.lst _) => (mLeak a s1).bind fun d s2 => (match cellOf s2 l with
      | some (.lst xs) => (match f xs d with
        | some (x, ys) => .ok (.d x) (setCell s2 l (.lst ys))
        | none => .stuck)
      | _ => .stuck)
    | _ => .stuck)
  | none => .stuck
def fAppend : List D → D → Option (D × List D) := fun xs d => if xs.length < sizeLine then some (.non, xs ++ [d]) else none
section
variable {X : Cx} {W : WX} {o a b : Expr} {mo ma mb : M} {apos cpos : Pos}
theorem mLm1_of {f : List D → D → Option (D × List D)} {r : V → List V → Hp → VK → Prop}
    (hf : ∀ (g : G) (l : Addr) (vs : List V) (xs : List D) (y : V) (d : D) (x : D) (ys : List D) (H : Hp) (Q : VK), RepL X.K g vs xs → Rep X.K g y d → H l = some (.lst vs) → f xs d = some (x, ys) →
      (∀ v ws, Rep X.K g v x → RepL X.K g ws ys → Q v (upd H l (.lst ws))) → r (.ref l) [y] H Q)
    {σ : St} {H : Hp} {Q : VK} {g : G} {s : S} (ok : Ok X.K g s σ H) (h : PostE X.K W σ g s H (kE X.K Q) (mLm1 f mo ma s)) : tBM X.K "list" r (tM X.K W mo) (tCons (tM X.K W ma) tNil) σ H Q := by
  refine ⟨g, s, ok, (PostE.bind h).mono fun rv g1 s1 H1 t1 k1 o1 h1 v rr => ?_⟩
  split at h1
  · rename_i l e1
    have hv := locOf_ok rr e1
    subst hv
    split at h1
    · rename_i zs e2
      obtain ⟨us, hu, _⟩ := cell_lst o1 e2
      refine ⟨.inl ⟨rfl, us, .of hu⟩, ?_⟩
      refine tM_leak o1 (PostE.bind h1) fun d g2 s2 H2 y t2 k2 o2 ry h2 => ?_
      have el : g2.adr l = g1.adr l := by
        cases l with
        | sl i => exact k2 i
        | gl n => exact t2.le.adr n (by rw [o1.ng]; exact gl_cell e2)
      split at h2
      · rename_i xs e3
        split at h2
        · rename_i x ys e4
          obtain ⟨vs, hvs, rvs⟩ := cell_lst o2 e3
          show r (.ref (g1.adr l)) [y] H2 Q
          rw [← el]
          exact hf g2 _ vs xs y d x ys H2 Q rvs ry hvs e4 fun v ws rv rw' => kE_change (o' := .lst ys) o2 e3 ⟨ws, upd_same, rw'⟩ rv h2
        · exact h2.elim
      · exact h2.elim
    · exact h1.elim
  · exact h1.elim
theorem me_append (ho : ME X W o mo) (ha : ME X W a ma) (hbase : attributeBase o "append" X.env (eval o X.env) = eval o X.env := by rfl)
    (hfew : ((backTo cpos (starEach [a] X.env)).all (fun x => !x.1) && (backToKw cpos (keywordEach [] X.env)).all (fun x => x.1.isSome)
      && decide ([a].length + ([] : List Keyword).length + (if ([] : List Keyword).isEmpty then 0 else 1) < 30)) = true := by rfl)
    (hline : (apos.endLine == cpos.line) = true := by rfl) (hs : starEach [a] X.env = (false, eval a X.env) :: starEach [] X.env := by rfl) :
    ME X W (.Call (.Attribute o "append" apos) [a] [] cpos) (mLm1 fAppend mo ma) := by
  have z := pe_bm PySem.F.plainAttrs_list PySem.F.slot_list_append PySem.F.type_list_append mt_append ho (pa_cons ha pa_nil hs) hbase hfew hline hs
  refine pe_imp z fun σ H Q h => ?_
  obtain ⟨g, s, ok, h⟩ := h
  refine mLm1_of (fun g l vs xs y d x ys H Q rvs ry hl e q => ?_) ok h
  clear h
  unfold fAppend at e
  split at e
  · rename_i hz
    cases e
    exact ⟨l, vs, y, rfl, rfl, hl, by rw [rvs.length]; exact hz, q _ _ .non (rvs.append (.one ry))⟩
  · cases e
end
end MI
/-! # Loops, comprehensions -/
namespace MI
open PySem L2

/-! ### what is walked -/
def Walk (K : PySem.W.Frag) (J : It) (ds : List D) (g : G) : Prop := ∀ g' s' σ' H', GLe g g' → Ok K g' s' σ' H' →
  J.stop ds.length H' ∧ ∀ i d, ds[i]? = some d → J.go i H' ∧ ∀ x H'', J.yld i H' x H'' → ∃ g'', Step g' H' g'' H'' ∧ SlKeep g' g'' ∧ Ok K g'' s' σ' H'' ∧ Rep K g'' x d
abbrev kI (K : PySem.W.Frag) (R : It → Hp → Prop) : List D → G → S → Hp → Prop := fun ds g _ H => ∀ J, Walk K J ds g → R J H
def tMI (K : PySem.W.Frag) (W : WX) (m : S → Res (List D)) : TI := fun σ H R => ∃ g s, Ok K g s σ H ∧ PostE K W σ g s H (kI K R) (m s)
def MIt (X : Cx) (W : WX) (tg iter : Expr) (m : S → Res (List D)) : Prop := PI X tg iter (tMI X.K W m)
theorem pi_imp {X : Cx} {tg e : Expr} {t t' : TI} (h : PI X tg e t) (i : ∀ σ H R, t' σ H R → t σ H R) : PI X tg e t' :=
  ⟨fun pins s σ H R I q => h.run pins s σ H R I (i σ H R q)⟩
/-- a target: what it does to the names -/
def MGk (K : PySem.W.Frag) (gt : TG) (is : List Nat) (t : D → S → Option S) : Prop :=
  ∀ g s σ H v d s', Ok K g s σ H → Rep K g v d → t d s = some s' → ∃ ws, Ok K g s' (setAll σ is ws) H ∧ ∀ Q : St → Hp → Prop, Q (setAll σ is ws) H → gt v σ H Q
structure MG (X : Cx) (tg : Expr) (gt : TG) (is : List Nat) (t : D → S → Option S) : Prop where
  pg : PG X tg gt
  ok : MGk X.K gt is t

def iSeq (m : M) : S → Res (List D) := fun s => (mLeak m s).bind fun d s1 => match d with
  | .lst xs => .ok xs s1
  | .tup xs => .ok xs s1
  | .scr xs => .ok xs s1
  | _ => .stuck
def iLst (m : M) : S → Res (List D) := fun s => (mLeak m s).bind fun d s1 => match d with
  | .lst xs => .ok xs s1
  | .scr xs => .ok xs s1
  | _ => .stuck
def iTup (m : M) : S → Res (List D) := fun s => (mLeak m s).bind fun d s1 => match d with
  | .tup xs => .ok xs s1
  | _ => .stuck
def rangeD (lo : Int) : Nat → List D
  | 0 => []
  | n + 1 => .int lo :: rangeD (lo + 1) n
theorem rangeD_len : ∀ (n : Nat) (lo : Int), (rangeD lo n).length = n
  | 0, _ => rfl
  | n + 1, lo => by rw [rangeD, List.length_cons, rangeD_len n]
theorem rangeD_get : ∀ (n : Nat) (lo : Int) (i : Nat) (d : D), (rangeD lo n)[i]? = some d → i < n ∧ d = .int (lo + i)
  | 0, _, _, _, e => by simp [rangeD] at e
  | n + 1, lo, 0, d, e => by simp [rangeD] at e; subst e; simp
  | n + 1, lo, i + 1, d, e => by
    obtain ⟨h1, h2⟩ := rangeD_get n (lo + 1) i d (by simpa [rangeD] using e)
    refine ⟨by omega, ?_⟩
    rw [h2]
    congr 1
    push_cast
    omega
theorem rng1_ex (j : Int) : ∃ r : Option (List D), r = if -(2 ^ 62) ≤ j ∧ j < 2 ^ 62 then some (rangeD 0 j.toNat) else none := ⟨_, rfl⟩
theorem rng2_ex (i j : Int) : ∃ r : Option (List D), r = if -(2 ^ 62) ≤ i ∧ i < 2 ^ 62 ∧ -(2 ^ 62) ≤ j ∧ j < 2 ^ 62 then some (rangeD i (j - i).toNat) else none := ⟨_, rfl⟩
/-- (by choice: nothing is worked out by the kernel) -/
noncomputable def rng1 (j : Int) : Option (List D) := Classical.choose (rng1_ex j)
noncomputable def rng2 (i j : Int) : Option (List D) := Classical.choose (rng2_ex i j)
theorem rng1_eq (j : Int) : rng1 j = if -(2 ^ 62) ≤ j ∧ j < 2 ^ 62 then some (rangeD 0 j.toNat) else none := Classical.choose_spec (rng1_ex j)
theorem rng2_eq (i j : Int) : rng2 i j = if -(2 ^ 62) ≤ i ∧ i < 2 ^ 62 ∧ -(2 ^ 62) ≤ j ∧ j < 2 ^ 62 then some (rangeD i (j - i).toNat) else none := Classical.choose_spec (rng2_ex i j)
noncomputable def iRange1 (m : S → Res (List D)) : S → Res (List D) := fun s => (m s).bind fun ds s1 => match ds with
  | [.int j] => (match rng1 j with
    | some l => .ok l s1
    | none => .stuck)
  | _ => .stuck
noncomputable def iRange2 (m : S → Res (List D)) : S → Res (List D) := fun s => (m s).bind fun ds s1 => match ds with
  | [.int i, .int j] => (match rng2 i j with
    | some l => .ok l s1
    | none => .stuck)
  | _ => .stuck
section
variable {K : PySem.W.Frag}
theorem walk_lst {g : G} {a : Addr} {vs : List V} {ds : List D} (h : SqL K g.F a vs) (r : RepL K g vs ds) (inj : ∀ H, Sub g.F H → ∀ xs, SqL K H a xs → xs = vs) : Walk K (Itl K a) ds g := by
  intro g' s' σ' H' l ok
  have hq : SqL K H' a vs := sqL_mono (l.F.trans ok.sub) h
  refine ⟨⟨vs, hq, by rw [r.length]; exact Nat.le_refl _⟩, fun i d e => ?_⟩
  obtain ⟨v, hv, rv⟩ := r.get e
  refine ⟨⟨vs, v, hq, hv⟩, fun x H'' ⟨e1, e2⟩ => ?_⟩
  subst e1
  have := e2 vs hq
  rw [hv] at this
  cases this
  exact ⟨g', Step.refl _ _, SlKeep.refl _, ok, rv.mono l⟩
theorem walk_lst' {g : G} {a : Addr} {vs : List V} {ds : List D} (h : SqL K g.F a vs) (r : RepL K g vs ds) : Walk K (Itl K a) ds g := by
  intro g' s' σ' H' l ok
  have hq : SqL K H' a vs := sqL_mono (l.F.trans ok.sub) h
  refine ⟨⟨vs, hq, by rw [r.length]; exact Nat.le_refl _⟩, fun i d e => ?_⟩
  obtain ⟨v, hv, rv⟩ := r.get e
  refine ⟨⟨vs, v, hq, hv⟩, fun x H'' ⟨e1, e2⟩ => ?_⟩
  subst e1
  have := e2 vs hq
  rw [hv] at this
  cases this
  exact ⟨g', Step.refl _ _, SlKeep.refl _, ok, rv.mono l⟩
theorem walk_tup {g : G} {a : Addr} {vs : List V} {ds : List D} (h : SqT K g.F a vs) (r : RepL K g vs ds) : Walk K (Itt K a) ds g := by
  intro g' s' σ' H' l ok
  have hq : SqT K H' a vs := sqT_mono (l.F.trans ok.sub) h
  refine ⟨⟨vs, hq, by rw [r.length]; exact Nat.le_refl _⟩, fun i d e => ?_⟩
  obtain ⟨v, hv, rv⟩ := r.get e
  refine ⟨⟨vs, v, hq, hv⟩, fun x H'' ⟨e1, e2⟩ => ?_⟩
  subst e1
  have := e2 vs hq
  rw [hv] at this
  cases this
  exact ⟨g', Step.refl _ _, SlKeep.refl _, ok, rv.mono l⟩
theorem walk_rng {g : G} {lo : Int} {n : Nat} : Walk K (Itr lo n) (rangeD lo n) g := by
  intro g' s' σ' H' l ok
  refine ⟨by rw [rangeD_len]; exact Nat.le_refl _, fun i d e => ?_⟩
  obtain ⟨h1, rfl⟩ := rangeD_get n lo i d e
  refine ⟨h1, fun x H'' ⟨e1, e2⟩ => ?_⟩
  subst e1 e2
  exact ⟨g', Step.refl _ _, SlKeep.refl _, ok, .int _⟩
end
section
variable {X : Cx} {W : WX} {tg e a b : Expr} {me : M} {m : S → Res (List D)} {p pos : Pos}
theorem mi_lst (he : ME X W e me) : MIt X W tg e (iLst me) := by
  refine pi_imp (pi_list he) fun σ H R h => ?_
  obtain ⟨g, s, ok, h⟩ := h
  refine tM_leak ok (PostE.bind h) fun d g1 s1 H1 v t1 k1 o1 rv h1 => ?_
  split at h1
  · cases rv with
    | lst hq r => exact ⟨_, rfl, ⟨_, .of (o1.sub _ _ hq)⟩, PostE.done h1 o1 _ (walk_lst' (.of hq) r)⟩
  · cases rv with
    | scr hq r => exact ⟨_, rfl, ⟨_, sqL_mono o1.sub hq⟩, PostE.done h1 o1 _ (walk_lst' hq r)⟩
  · exact h1.elim
theorem mi_tup (he : ME X W e me) : MIt X W tg e (iTup me) := by
  refine pi_imp (pi_tup he) fun σ H R h => ?_
  obtain ⟨g, s, ok, h⟩ := h
  refine tM_leak ok (PostE.bind h) fun d g1 s1 H1 v t1 k1 o1 rv h1 => ?_
  split at h1
  · cases rv with
    | tup hq r => exact ⟨_, rfl, ⟨_, sqT_mono o1.sub hq⟩, PostE.done h1 o1 _ (walk_tup hq r)⟩
  · exact h1.elim
/-- of two readings of what is walked the one that is not stuck -/
def orI (a b : S → Res (List D)) : S → Res (List D) := fun s => match a s with
  | .stuck => b s
  | r => r
theorem pi_or2 {t t' : TI} (h : PI X tg e t) (h' : PI X tg e t') : PI X tg e (fun σ H R => t σ H R ∨ t' σ H R) :=
  ⟨fun pins s σ H R I q => q.elim (h.run pins s σ H R I) (h'.run pins s σ H R I)⟩
theorem mi_alt {ma mb : S → Res (List D)} (ha : MIt X W tg e ma) (hb : MIt X W tg e mb) : MIt X W tg e (orI ma mb) := by
  refine pi_imp (pi_or2 ha hb) fun σ H Q h => ?_
  obtain ⟨g, s, ok, h⟩ := h
  unfold orI at h
  cases q : ma s with
  | ok a s' => simp only [q] at h; exact .inl ⟨g, s, ok, by rw [q]; exact h⟩
  | exc c p s' => simp only [q] at h; exact .inl ⟨g, s, ok, by rw [q]; exact h⟩
  | stuck => simp only [q] at h; exact .inr ⟨g, s, ok, h⟩
theorem mi_imp {m m' : S → Res (List D)} (h : MIt X W tg e m) (i : ∀ s, m' s = .stuck ∨ m' s = m s) : MIt X W tg e m' := by
  refine pi_imp h fun σ H R ⟨g, s, ok, h⟩ => ?_
  rcases i s with z | z
  · rw [z] at h; exact h.elim
  · rw [z] at h; exact ⟨g, s, ok, h⟩
theorem mi_seq (he : ME X W e me) : MIt X W tg e (iSeq me) := by
  refine mi_imp (mi_alt (mi_lst he) (mi_tup he)) fun s => ?_
  unfold iSeq orI iLst iTup
  cases h : mLeak me s with
  | ok d s1 => cases d <;> simp
  | exc c p s1 => simp
  | stuck => simp
theorem mi_range1 (ha : MA X W [a] m) (hg : Gl X "range") (hm : X.mg "range" = none) (hs : starEach [a] X.env = [(false, eval a X.env)] := by rfl) : MIt X W tg (.Call (.Name "range" p) [a] [] pos) (iRange1 m) := by
  refine pi_imp (pi_range1 hg hm ha hs) fun σ H R h => ?_
  obtain ⟨g, s, ok, h⟩ := h
  refine ⟨g, s, ok, (PostE.bind h).mono fun ds g1 s1 H1 t1 k1 o1 h1 vs rs => ?_⟩
  split at h1
  · cases rs with
    | cons r1 rs =>
      cases rs
      cases r1
      split at h1
      · rename_i hz
        rw [rng1_eq] at hz
        split at hz
        · rename_i hz2
          cases hz
          exact ⟨_, rfl, hz2.1, hz2.2, PostE.done h1 o1 _ walk_rng⟩
        · cases hz
      · exact h1.elim
  · exact h1.elim
theorem mi_range2 (ha : MA X W [a, b] m) (hg : Gl X "range") (hm : X.mg "range" = none) (hs : starEach [a, b] X.env = [(false, eval a X.env), (false, eval b X.env)] := by rfl) (hs2 : starEach [b] X.env = [(false, eval b X.env)] := by rfl) : MIt X W tg (.Call (.Name "range" p) [a, b] [] pos) (iRange2 m) := by
  refine pi_imp (pi_range2 hg hm ha hs hs2) fun σ H R h => ?_
  obtain ⟨g, s, ok, h⟩ := h
  refine ⟨g, s, ok, (PostE.bind h).mono fun ds g1 s1 H1 t1 k1 o1 h1 vs rs => ?_⟩
  split at h1
  · cases rs with
    | cons r1 rs =>
      cases rs with
      | cons r2 rs =>
        cases rs
        cases r1; cases r2
        split at h1
        · rename_i hz
          rw [rng2_eq] at hz
          split at hz
          · rename_i hz2
            cases hz
            exact ⟨_, _, rfl, hz2, PostE.done h1 o1 _ walk_rng⟩
          · cases hz
        · exact h1.elim
  · exact h1.elim
/-! ### targets -/
def tgName (i : Nat) : D → S → Option S := fun d s => assign i (.d d) s
def tgTup (is : List Nat) : D → S → Option S := fun d s => match d with
  | .tup ds => assignAll is (ds.map .d) s
  | _ => none
theorem mgk_name {K : PySem.W.Frag} {i : Nat} : MGk K (gName i) [i] (tgName i) := fun g s σ H v d s' ok r e => by
  simp only [tgName, assign] at e
  split at e
  · rename_i hl
    cases e
    exact ⟨[v], ok.setVal r hl, fun Q q => q⟩
  · cases e
theorem mg_name {i : Nat} {x : Str} (hN : X.N.Nodup) (hi : X.N[i]? = some x := by rfl) (hx : L2.Loc X.env.scope x := by first | exact Or.inl rfl | exact Or.inr rfl) (hf : X.fn x = true ∨ X.env.scope.names.lookup x = some .local := by first | exact .inl rfl | exact .inr rfl) :
    MG X (.Name x pos) (gName i) [i] (tgName i) := ⟨pg_name hN hi hx hf, mgk_name⟩
theorem assignAll_d {K : PySem.W.Frag} {g : G} {H : Hp} : ∀ {is : List Nat} {vs : List V} {ds : List D} {σ : St} {s s' : S}, Ok K g s σ H → RepL K g vs ds → assignAll is (ds.map .d) s = some s' → Ok K g s' (setAll σ is vs) H
  | [], _, _, σ, s, s', ok, .nil, e => by cases e; exact ok
  | [], _, _, σ, s, s', ok, .cons _ _, e => by cases e
  | i :: is, _, _, σ, s, s', ok, .nil, e => by cases e
  | i :: is, _, _, σ, s, s', ok, .cons (d := d) a b, e => by
    simp only [List.map_cons, assignAll, assign] at e
    split at e
    · rename_i s1 e1
      split at e1
      · rename_i hl
        cases e1
        have z := assignAll_d (ok.setVal a hl) b e
        exact z
      · cases e1
    · cases e
theorem mgk_tup {K : PySem.W.Frag} {is : List Nat} : MGk K (gTup K is.length (gNames is)) is (tgTup is) := fun g s σ H v d s' ok r e => by
  unfold tgTup at e
  split at e
  · rename_i ds
    cases r with
    | tup hq rl =>
      refine ⟨_, assignAll_d ok rl e, fun Q q => ?_⟩
      have hl := (assignAll_len e).trans ((List.length_map _).trans rl.length.symm)
      exact ⟨_, _, rfl, sqT_mono ok.sub hq, hl.symm, gNames_set hl q⟩
  · cases e
theorem mg_tup {ts : List Expr} {is : List Nat} {k : Nat} (hc : X.calm = true) (h : PGs X ts (gNames is)) (hn : (assignEach ts X.env).length = is.length := by rfl) (hst : (assignEach ts X.env).findIdx? (·.1) = none := by rfl) :
    MG X (.Tuple ts k pos) (gTup X.K is.length (gNames is)) is (tgTup is) := ⟨pg_tup hc h hn hst, mgk_tup⟩
end

/-! ### for -/
def forGo (t : D → S → Option S) (body : S → Res Out) : List D → S → Res Out
  | [], s => .ok .nx s
  | d :: ds, s => match t d s with
    | none => .stuck
    | some s1 => match body s1 with
      | .ok .nx s2 => forGo t body ds s2
      | .ok .ct s2 => forGo t body ds s2
      | .ok .bk s2 => .ok .nx s2
      | r => r
def mFor (it : S → Res (List D)) (t : D → S → Option S) (body : S → Res Out) : S → Res Out := fun s => (it s).bind fun ds s1 => forGo t body ds s1
section
variable {X : Cx} {W : WX} {tg iter : Expr} {body : List Stmt} {it : S → Res (List D)} {gt : TG} {is : List Nat} {t : D → S → Option S} {mb : S → Res Out} {pos : Pos}
theorem ms_for (hp : PassesOwn (model X.prog X.w) X.A X.env X.xe) (hc : X.calm = true) (hi : MIt X W tg iter it) (hg : MG X tg gt is t) (hb : MSs X W body mb)
    (hs : ∀ x, foldedSetIterable iter X.env x = pure x := by intro _; rfl) : MS X W (.For tg iter body [] pos) (mFor it t mb) := by
  refine ps_imp (ps_for hp hc hi hg.pg hb hs) fun D σ H h => ?_
  obtain ⟨g, s, ok, h⟩ := h
  refine ⟨g, s, ok, (PostS.bind h).mono fun ds g1 s1 H1 t1 k1 o1 h1 J hJ => ?_⟩
  refine ⟨fun i m σ' H' => m = ds.length - i ∧ i ≤ ds.length ∧ ∃ g' s', Step g1 H1 g' H' ∧ Ok X.K g' s' σ' H' ∧ PostS X.K W g' s' H' D (forGo t mb (ds.drop i) s'), ⟨ds.length, by simp, Nat.zero_le _, g1, s1, Step.refl _ _, o1, by simpa using h1⟩, ?_⟩
  rintro i m σ' H' ⟨rfl, hi, g', s', t', o', h'⟩
  obtain ⟨st, go⟩ := hJ g' s' σ' H' t'.le o'
  by_cases hlt : i < ds.length
  · obtain ⟨d, hd⟩ : ∃ d, ds[i]? = some d := ⟨_, List.getElem?_eq_getElem hlt⟩
    have hdrop : ds.drop i = d :: ds.drop (i + 1) := by
      rw [List.drop_eq_getElem_cons hlt]
      congr 1
      rw [List.getElem?_eq_getElem hlt] at hd
      exact Option.some.inj hd
    obtain ⟨go1, yl⟩ := go i d hd
    refine .inr ⟨go1, fun σ3 H3 => ∃ g3 s3, Step g1 H1 g3 H3 ∧ Ok X.K g3 s3 σ3 H3 ∧ PostS X.K W g3 s3 H3 D (forGo t mb (ds.drop (i + 1)) s3), fun σ3 H3 ⟨g3, s3, t3, o3, h3⟩ => ⟨ds.length - (i + 1), by omega, rfl, hlt, g3, s3, t3, o3, h3⟩, fun x H2 y => ?_⟩
    obtain ⟨g2, t2, k2, o2, r2⟩ := yl x H2 y
    have h2 := PostS.after (s' := s') h' t2
    rw [hdrop] at h2
    unfold forGo at h2
    cases e : t d s' with
    | none => simp only [e] at h2; exact h2.elim
    | some s2 =>
      simp only [e] at h2
      obtain ⟨ws, o2', hQ⟩ := hg.ok g2 s' σ' H2 x d s2 o2 r2 e
      refine hQ _ ⟨g2, s2, o2', ?_⟩
      have tt := t'.trans t2
      cases e2 : mb s2 with
      | ok o s3 =>
        simp only [e2] at h2
        cases o with
        | nx => exact fun σ3 g3 H3 t3 o3 => ⟨g3, s3, tt.trans t3, o3, PostS.after h2 t3⟩
        | ct => exact fun σ3 g3 H3 t3 o3 => ⟨g3, s3, tt.trans t3, o3, PostS.after h2 t3⟩
        | bk => exact fun σ3 g3 H3 t3 o3 => h2 σ3 g3 H3 t3 o3
        | rt d => exact fun v σ3 g3 H3 t3 o3 rv => h2 v σ3 g3 H3 t3 o3 rv
      | exc c p s3 => simp only [e2] at h2; exact h2
      | stuck => simp only [e2] at h2; exact h2
  · have e : i = ds.length := by omega
    subst e
    refine .inl ⟨st, ?_⟩
    rw [List.drop_length] at h'
    exact PostS.nx h' o'
end

/-! ### while -/
def whileGo (c : S → Res Bool) (b : S → Res Out) : Nat → S → Res Out
  | 0, _ => .stuck
  | n + 1, s => (c s).bind fun k s1 => if k = true then (match b s1 with
    | .ok .nx s2 => whileGo c b n s2
    | .ok .ct s2 => whileGo c b n s2
    | .ok .bk s2 => .ok .nx s2
    | r => r) else .ok .nx s1
open Classical in
noncomputable def mWhile (c : S → Res Bool) (b : S → Res Out) : S → Res Out := fun s => if h : ∃ n, whileGo c b n s ≠ .stuck then whileGo c b (Classical.choose h) s else .stuck
theorem whileGo_mono {c : S → Res Bool} {b : S → Res Out} : ∀ (n k : Nat) (s : S), whileGo c b n s ≠ .stuck → whileGo c b (n + k) s = whileGo c b n s
  | 0, _, _, h => absurd rfl h
  | n + 1, k, s, h => by
    have e : n + 1 + k = (n + k) + 1 := by omega
    rw [e]
    unfold whileGo at h ⊢
    cases hc : c s with
    | ok q s1 =>
      rw [hc] at h
      simp only [Res.bind_ok] at h ⊢
      by_cases hq : q = true
      · rw [if_pos hq] at h ⊢
        rw [if_pos hq]
        cases hb : b s1 with
        | ok o s2 =>
          rw [hb] at h
          cases o with
          | nx => exact whileGo_mono n k s2 h
          | ct => exact whileGo_mono n k s2 h
          | bk => rfl
          | rt d => rfl
        | exc _ _ _ => rfl
        | stuck => rfl
      · rw [if_neg hq, if_neg hq]
    | exc _ _ _ => rfl
    | stuck => rfl
theorem mWhile_eq {c : S → Res Bool} {b : S → Res Out} {n : Nat} {s : S} {r : Res Out} (h : whileGo c b n s = r) (hr : r ≠ .stuck) : mWhile c b s = r := by
  have hx : ∃ n, whileGo c b n s ≠ .stuck := ⟨n, by rw [h]; exact hr⟩
  unfold mWhile
  rw [dif_pos hx]
  have hy := Classical.choose_spec hx
  rcases Nat.le_total n (Classical.choose hx) with z | z
  · obtain ⟨k, hk⟩ := Nat.exists_eq_add_of_le z
    rw [hk, whileGo_mono n k s (by rw [h]; exact hr)]; exact h
  · obtain ⟨k, hk⟩ := Nat.exists_eq_add_of_le z
    rw [← whileGo_mono _ k s hy, ← hk]; exact h
section
variable {X : Cx} {W : WX} {c : Expr} {body : List Stmt} {mc : S → Res Bool} {mb : S → Res Out} {pos : Pos}
theorem ms_while (hp : PassesOwn (model X.prog X.w) X.A X.env X.xe) (hc : MT X W c mc) (hb : MSs X W body mb) : MS X W (.While c body [] pos) (mWhile mc mb) := by
  refine ps_imp (ps_while hp hc hb) fun D σ H h => ?_
  obtain ⟨g, s, ok, h⟩ := h
  unfold mWhile at h
  split at h
  · rename_i hx
    refine ⟨fun m σ H => ∃ g s, Ok X.K g s σ H ∧ PostS X.K W g s H D (whileGo mc mb m s), ⟨_, g, s, ok, h⟩, ?_⟩
    rintro m σ H ⟨g, s, ok, h⟩
    cases m with
    | zero => exact h.elim
    | succ m =>
      unfold whileGo at h
      refine ⟨g, s, ok, (PostS.bind h).mono fun k g1 s1 H1 t1 k1 o1 h1 => ?_⟩
      cases k with
      | true =>
        rw [if_pos rfl] at h1
        show (if true = true then _ else _)
        rw [if_pos rfl]
        refine ⟨fun σ3 H3 => ∃ g3 s3, Ok X.K g3 s3 σ3 H3 ∧ PostS X.K W g3 s3 H3 D (whileGo mc mb m s3), fun σ3 H3 z => ⟨m, Nat.lt_succ_self _, z⟩, g1, s1, o1, ?_⟩
        cases e2 : mb s1 with
        | ok o s3 =>
          simp only [e2] at h1
          cases o with
          | nx => exact fun σ3 g3 H3 t3 o3 => ⟨g3, s3, o3, PostS.after h1 t3⟩
          | ct => exact fun σ3 g3 H3 t3 o3 => ⟨g3, s3, o3, PostS.after h1 t3⟩
          | bk => exact fun σ3 g3 H3 t3 o3 => h1 σ3 g3 H3 t3 o3
          | rt d => exact fun v σ3 g3 H3 t3 o3 rv => h1 v σ3 g3 H3 t3 o3 rv
        | exc c p s3 => simp only [e2] at h1; exact h1
        | stuck => simp only [e2] at h1; exact h1
      | false =>
        rw [if_neg (by decide)] at h1
        show (if false = true then _ else _)
        rw [if_neg (by decide)]
        exact PostS.nx h1 o1
  · exact h.elim
end
end MI
/-! # List comprehensions -/
namespace MI
open PySem L2

def wipeE (env : List Slot) : List Nat → List Slot
  | [] => env
  | v :: vs => (wipeE env vs).set v .none
def restE (e1 e2 : List Slot) : List Nat → List Slot
  | [] => e2
  | v :: vs => (restE e1 e2 vs).set v ((e1[v]?).getD .none)
theorem wipeE_len (env : List Slot) : ∀ vs, (wipeE env vs).length = env.length
  | [] => rfl
  | v :: vs => by rw [wipeE, List.length_set, wipeE_len env vs]
theorem restE_len (e1 e2 : List Slot) : ∀ vs, (restE e1 e2 vs).length = e2.length
  | [] => rfl
  | v :: vs => by rw [restE, List.length_set, restE_len e1 e2 vs]
theorem wipeE_get (env : List Slot) : ∀ (vs : List Nat) (i : Nat), (wipeE env vs)[i]? = if i ∈ vs then (env[i]?).map (fun _ => Slot.none) else env[i]?
  | [], i => by simp [wipeE]
  | v :: vs, i => by
    rw [wipeE]
    by_cases h : i = v
    · subst h
      simp only [List.mem_cons, true_or, if_true]
      by_cases hl : i < env.length
      · rw [List.getElem?_set_self (by rw [wipeE_len]; exact hl), List.getElem?_eq_getElem hl]; rfl
      · rw [List.getElem?_eq_none (by rw [List.length_set, wipeE_len]; omega), List.getElem?_eq_none (by omega)]; rfl
    · rw [List.getElem?_set_ne (Ne.symm h), wipeE_get env vs i]
      simp [h]
theorem restE_get (e1 e2 : List Slot) (hl : e1.length = e2.length) : ∀ (vs : List Nat) (i : Nat), (restE e1 e2 vs)[i]? = if i ∈ vs then e1[i]? else e2[i]?
  | [], i => by simp [restE]
  | v :: vs, i => by
    rw [restE]
    by_cases h : i = v
    · subst h
      simp only [List.mem_cons, true_or, if_true]
      by_cases hi : i < e1.length
      · rw [List.getElem?_set_self (by rw [restE_len]; omega), List.getElem?_eq_getElem hi]; rfl
      · rw [List.getElem?_eq_none (by rw [List.length_set, restE_len]; omega), List.getElem?_eq_none (by omega)]
    · rw [List.getElem?_set_ne (Ne.symm h), restE_get e1 e2 hl vs i]
      simp [h]
theorem wipe_get (σ : St) : ∀ (vs : List Nat) (i : Nat), (wipe σ vs)[i]? = if i ∈ vs then (σ[i]?).map (fun _ => none) else σ[i]?
  | [], i => by simp [wipe]
  | v :: vs, i => by
    rw [wipe]
    by_cases h : i = v
    · subst h
      simp only [List.mem_cons, true_or, if_true]
      by_cases hl : i < σ.length
      · rw [List.getElem?_set_self (by rw [wipe_length]; exact hl), List.getElem?_eq_getElem hl]; rfl
      · rw [List.getElem?_eq_none (by rw [List.length_set, wipe_length]; omega), List.getElem?_eq_none (by omega)]; rfl
    · rw [List.getElem?_set_ne (Ne.symm h), wipe_get σ vs i]
      simp [h]
theorem setAll_len : ∀ (is : List Nat) (vs : List V) (σ : St), (setAll σ is vs).length = σ.length
  | [], _, _ => by simp [setAll]
  | _ :: _, [], _ => by simp [setAll]
  | i :: is, v :: vs, σ => by rw [setAll, setAll_len is vs, List.length_set]
theorem setAll_get : ∀ (is : List Nat) (vs : List V) (σ : St) (i : Nat), i ∉ is → (setAll σ is vs)[i]? = σ[i]?
  | [], _, _, _, _ => by simp [setAll]
  | _ :: _, [], _, _, _ => by simp [setAll]
  | j :: is, v :: vs, σ, i, h => by
    rw [setAll, setAll_get is vs _ i (fun z => h (List.mem_cons_of_mem _ z)), List.getElem?_set_ne (fun z => h (by rw [z]; exact List.mem_cons_self))]
theorem wipe_setAll {σ : St} {is vs : List Nat} {ws : List V} (h : ∀ i ∈ is, i ∈ vs) : wipe (setAll (wipe σ vs) is ws) vs = wipe σ vs := by
  apply List.ext_getElem?
  intro i
  rw [wipe_get, wipe_get]
  by_cases hi : i ∈ vs
  · rw [if_pos hi, if_pos hi]
    have hl : (setAll (wipe σ vs) is ws).length = σ.length := by rw [setAll_len, wipe_length]
    by_cases hl2 : i < σ.length
    · rw [List.getElem?_eq_getElem (by rw [hl]; exact hl2), List.getElem?_eq_getElem hl2]; rfl
    · rw [List.getElem?_eq_none (by rw [hl]; omega), List.getElem?_eq_none (by omega)]
  · rw [if_neg hi, if_neg hi, setAll_get _ _ _ _ (fun z => hi (h i z)), wipe_get, if_neg hi]
theorem wipe_wipe {σ : St} {vs : List Nat} : wipe (wipe σ vs) vs = wipe σ vs := by
  have := wipe_setAll (σ := σ) (is := []) (vs := vs) (ws := []) (fun _ h => nomatch h)
  simpa [setAll] using this
def noOwn (env : List Slot) (vs : List Nat) : Bool := vs.all fun v => match env[v]? with
  | some (.own _) => false
  | _ => true
def wipeS (s : S) (vs : List Nat) : S := { s with env := wipeE s.env vs }
section
variable {K : PySem.W.Frag} {σ : St} {g : G} {s : S} {H : Hp}
theorem cellOf_wipe {vs : List Nat} {l : Loc} {o : MObj} (e : cellOf (wipeS s vs) l = some o) : cellOf s l = some o ∧ ∀ i, l = .sl i → i ∉ vs := by
  cases l with
  | gl n => exact ⟨e, fun i z => nomatch z⟩
  | sl j =>
    have e' : (match (wipeE s.env vs)[j]? with | some (.own o) => some o | _ => none) = some o := e
    rw [wipeE_get] at e'
    by_cases h : j ∈ vs
    · rw [if_pos h] at e'
      cases q : s.env[j]? with
      | none => rw [q] at e'; cases e'
      | some w => rw [q] at e'; cases e'
    · rw [if_neg h] at e'
      exact ⟨e', fun i z => by cases z; exact h⟩
theorem Ok.wipe {vs : List Nat} (ok : Ok K g s σ H) : Ok K g (wipeS s vs) (wipe σ vs) H := by
  refine ⟨ok.sub, fun l o e => ok.cell l o (cellOf_wipe e).1, fun l l' o o' e e' z => ok.inj l l' o o' (cellOf_wipe e).1 (cellOf_wipe e').1 z, fun i x e => ?_, ?_, ok.ng, fun a p => ?_⟩
  · have e' : (wipeE s.env vs)[i]? = some x := e
    rw [wipeE_get] at e'
    by_cases h : i ∈ vs
    · rw [if_pos h] at e'
      cases q : s.env[i]? with
      | none => rw [q] at e'; cases e'
      | some w => rw [q] at e'; cases e'; trivial
    · rw [if_neg h] at e'
      have := ok.env i x e'
      cases x with
      | none => trivial
      | val d => obtain ⟨v, q, r⟩ := this; exact ⟨v, by rw [wipe_get, if_neg h]; exact q, r⟩
      | own o => show (L2.wipe σ vs)[i]? = _; rw [wipe_get, if_neg h]; exact this
  · show (wipeE s.env vs).length = (L2.wipe σ vs).length
    rw [wipeE_len, wipe_length, ok.len]
  · obtain ⟨h1, h2, h3⟩ := ok.prot a p
    exact ⟨h1, h2, fun ⟨l, o, e, z⟩ => h3 ⟨l, o, (cellOf_wipe e).1, z⟩⟩
/-- back from the block: the block's own names are as they were -/
theorem Ok.rest {vs : List Nat} {g' : G} {s' : S} {H' : Hp} (ok : Ok K g s σ H) (n : noOwn s.env vs = true) (ok' : Ok K g' s' (L2.wipe σ vs) H') (l : GLe g g') :
    Ok K g' { s' with env := restE s.env s'.env vs } σ H' := by
  have hl : s.env.length = s'.env.length := by
    have h1 := ok.len
    have h2 := ok'.len
    rw [wipe_length] at h2
    omega
  have no : ∀ i ∈ vs, ∀ o, s.env[i]? ≠ some (.own o) := fun i hi o e => by
    have := List.all_eq_true.mp n i hi
    rw [e] at this
    cases this
  have cs : ∀ {l o}, cellOf { s' with env := restE s.env s'.env vs } l = some o → cellOf s' l = some o := by
    intro l o e
    cases l with
    | gl n => exact e
    | sl j =>
      have e' : (match (restE s.env s'.env vs)[j]? with | some (.own o) => some o | _ => none) = some o := e
      rw [restE_get _ _ hl] at e'
      by_cases h : j ∈ vs
      · rw [if_pos h] at e'
        split at e'
        · rename_i w q
          exact absurd q (no j h _)
        · cases e'
      · rw [if_neg h] at e'
        exact e'
  refine ⟨ok'.sub, fun l o e => ok'.cell l o (cs e), fun l l' o o' e e' z => ok'.inj l l' o o' (cs e) (cs e') z, fun i x e => ?_, ?_, ok'.ng, fun a p => ?_⟩
  · have e' : (restE s.env s'.env vs)[i]? = some x := e
    rw [restE_get _ _ hl] at e'
    by_cases h : i ∈ vs
    · rw [if_pos h] at e'
      have := ok.env i x e'
      cases x with
      | none => trivial
      | val d => obtain ⟨v, q, r⟩ := this; exact ⟨v, q, r.mono l⟩
      | own o => exact absurd e' (no i h o)
    · rw [if_neg h] at e'
      have := ok'.env i x e'
      cases x with
      | none => trivial
      | val d => obtain ⟨v, q, r⟩ := this; exact ⟨v, by rw [wipe_get, if_neg h] at q; exact q, r⟩
      | own o =>
        have q : (L2.wipe σ vs)[i]? = _ := this
        rw [wipe_get, if_neg h] at q
        exact q
  · show (restE s.env s'.env vs).length = σ.length
    rw [restE_len, ← hl]; exact ok.len
  · obtain ⟨h1, h2, h3⟩ := ok'.prot a p
    exact ⟨h1, h2, fun ⟨l, o, e, z⟩ => h3 ⟨l, o, cs e, z⟩⟩
end
def compGo (vs : List Nat) (t : D → S → Option S) (c : S → Res Bool) (e : S → Res D) : List D → List D → S → Option (List D × S)
  | [], acc, s => some (acc, s)
  | d :: ds, acc, s => match t d s with
    | none => none
    | some s1 => match c s1 with
      | .ok b s2 => if b = true then (match e s2 with
          | .ok y s3 => if acc.length < sizeLine then compGo vs t c e ds (acc ++ [y]) (wipeS s3 vs) else none
          | _ => none)
        else compGo vs t c e ds acc (wipeS s2 vs)
      | _ => none
def mComp (vs : List Nat) (it : S → Res (List D)) (t : D → S → Option S) (c : S → Res Bool) (e : M) : M := fun s => (it s).bind fun ds s1 => if noOwn s1.env vs = true then (match compGo vs t c (mLeak e) ds [] (wipeS s1 vs) with
  | some (acc, s2) => .ok (.new (.lst acc)) { s2 with env := restE s1.env s2.env vs }
  | none => .stuck) else .stuck
def mYes : S → Res Bool := fun s => .ok true s
abbrev W0 : WX := fun _ _ _ _ => False
abbrev Blk (X : Cx) (scope : Scope) (P : Cx → Prop) : Prop := ∀ (s : Shared) (H : Hp) (C : Addr) (cl : List (Str × Addr)) (fp : List Addr), P (X.blk s H scope (PySem.compEnvC scope cl C X.env) fp)
def MTs (X : Cx) (W : WX) (ifs : List Expr) (m : S → Res Bool) : Prop := PTs X ifs (tMT X.K W m)
theorem mts_nil {X : Cx} {W : WX} : MTs X W [] mYes := ⟨fun pins s σ H Q I ⟨g, t, ok, h⟩ => pts_nil.run pins s σ H Q I (PostE.done (W := W) h ok)⟩
theorem mts_one {X : Cx} {W : WX} {c : Expr} {m : S → Res Bool} (h : MT X W c m) : MTs X W [c] m := pts_one h
section
variable {X : Cx} {W : WX}
theorem tLc_of {vs is : List Nat} {it : S → Res (List D)} {gt : TG} {t : D → S → Option S} {mc : S → Res Bool} {me : M} {σ : St} {H : Hp} {Q : VK} {g : G} {s : S}
    (hgt : MGk X.K gt is t) (hsub : ∀ i ∈ is, i ∈ vs)
    (ok : Ok X.K g s σ H) (h : PostE X.K W σ g s H (kE X.K Q) (mComp vs it t mc me s)) :
    tLc (tMI X.K W it) gt (tMT X.K W0 mc) (tM X.K W0 me) vs σ H Q := by
  refine ⟨g, s, ok, (PostE.bind h).mono fun ds g1 s1 H1 t1 k1 o1 h1 J hJ D hD => ?_⟩
  split at h1
  · rename_i hno
    split at h1
    · rename_i acc0 s0 hgo
      -- the new list at D is held
      have ok2 := o1.grow (o := .lst []) hD
      have hold := ok2.hold (a := D) (u := .lst []) upd_same (o1.fnone hD) (o1.lnone hD)
      refine ⟨fun i m H' => m = ds.length - i ∧ i ≤ ds.length ∧ ∃ g' s' acc avs, Step (g1.hold D) (upd H1 D (.lst [])) (g'.wP (g1.hold D).P) (upd H' D (.lst [])) ∧ SlKeep g1 g' ∧ g'.P = (g1.hold D).P ∧ Ok X.K g' s' (wipe σ vs) H' ∧ H' D = some (.lst avs) ∧ RepL X.K g' avs acc ∧
        compGo vs t mc (mLeak me) (ds.drop i) acc s' = some (acc0, s0), ⟨ds.length, by simp, Nat.zero_le _, g1.hold D, wipeS s1 vs, [], [], ?_, SlKeep.refl _, rfl, hold.wipe, upd_same, .nil, by simpa using hgo⟩, ?_⟩
      · refine ⟨⟨Sub.refl _, Nat.le_refl _, fun _ _ => rfl⟩, rfl, fun b _ => ?_⟩
        rw [upd_upd]
      rintro i m H' ⟨rfl, hi, g', s', acc, avs, st, sk, pp, o', hD', racc, hg'⟩
      have lg : GLe g1 g' := ⟨st.le.F, st.le.ng, st.le.adr⟩
      have pD : g'.P D := by rw [pp]; exact .inr rfl
      obtain ⟨stp, go⟩ := hJ g' s' _ H' lg o'
      by_cases hlt : i < ds.length
      · obtain ⟨d, hd⟩ : ∃ d, ds[i]? = some d := ⟨_, List.getElem?_eq_getElem hlt⟩
        have hdrop : ds.drop i = d :: ds.drop (i + 1) := by
          rw [List.drop_eq_getElem_cons hlt]
          congr 1
          rw [List.getElem?_eq_getElem hlt] at hd
          exact Option.some.inj hd
        obtain ⟨go1, yl⟩ := go i d hd
        refine .inr ⟨go1, fun H3 => ∃ g3 s3 acc avs, Step (g1.hold D) (upd H1 D (.lst [])) (g3.wP (g1.hold D).P) (upd H3 D (.lst [])) ∧ SlKeep g1 g3 ∧ g3.P = (g1.hold D).P ∧ Ok X.K g3 s3 (wipe σ vs) H3 ∧ H3 D = some (.lst avs) ∧ RepL X.K g3 avs acc ∧
          compGo vs t mc (mLeak me) (ds.drop (i + 1)) acc s3 = some (acc0, s0), fun H3 z => ⟨ds.length - (i + 1), by omega, rfl, hlt, z⟩, fun x H2 y => ?_⟩
        obtain ⟨g2, t2, k2, o2, r2⟩ := yl x H2 y
        rw [hdrop] at hg'
        unfold compGo at hg'
        cases e : t d s' with
        | none => simp only [e] at hg'; cases hg'
        | some s2 =>
          simp only [e] at hg'
          obtain ⟨ws, o2', hQ⟩ := hgt g2 s' (wipe σ vs) H2 x d s2 o2 r2 e
          refine hQ _ ⟨wipe_setAll hsub, g2, s2, o2', ?_⟩
          -- what has been kept so far
          have acc2 : ∀ {g3 : G} {H3 : Hp}, Step g2 H2 g3 H3 → SlKeep g2 g3 → g3.P = (g1.hold D).P ∧ Step (g1.hold D) (upd H1 D (.lst [])) (g3.wP (g1.hold D).P) (upd H3 D (.lst [])) ∧ SlKeep g1 g3 ∧ H3 D = some (.lst avs) ∧ RepL X.K g3 avs acc := by
            intro g3 H3 t3 k3
            have tt := t2.trans t3
            have p3 : g3.P = (g1.hold D).P := tt.P.trans pp
            refine ⟨p3, ⟨⟨st.le.F.trans tt.le.F, Nat.le_trans st.le.ng tt.le.ng, fun n hn => (tt.le.adr n (Nat.lt_of_lt_of_le hn st.le.ng)).trans (st.le.adr n hn)⟩, rfl, fun b hb => ?_⟩, fun j => (k3 j).trans ((k2 j).trans (sk j)), (tt.keep D pD).trans hD', racc.mono tt.le⟩
            by_cases hbD : b = D
            · rw [hbD, upd_same, upd_same]
            · have q := st.keep b hb
              rw [upd_ne hbD, upd_ne hbD] at q ⊢
              exact (tt.keep b (by rw [pp]; exact hb)).trans q
          cases e2 : mc s2 with
          | ok b s3 =>
            simp only [e2] at hg'
            intro g3 H3 t3 k3 o3
            show (if b = true then _ else _)
            cases b with
            | true =>
              rw [if_pos rfl] at hg'
              rw [if_pos rfl]
              unfold mLeak at hg'
              refine ⟨g3, s3, o3, ?_⟩
              cases e3 : me s3 with
              | ok r s4 =>
                simp only [e3, Res.bind_ok] at hg'
                intro g4 H4 t4 k4 o4 v rv
                cases e4 : leak r s4 with
                | none => simp only [e4] at hg'; cases hg'
                | some pr =>
                  obtain ⟨y, s5⟩ := pr
                  simp only [e4] at hg'
                  obtain ⟨g5, t5, k5, o5, ry⟩ := leak_ok o4 rv e4
                  obtain ⟨p5, st5, sk5, hD5, ra5⟩ := acc2 ((t3.trans t4).trans t5) ((k3.trans k4).trans k5)
                  by_cases hz : acc.length < sizeLine
                  · rw [if_pos hz] at hg'
                    have pD5 : g5.P D := by rw [p5]; exact .inr rfl
                    obtain ⟨_, f5, l5⟩ := o5.prot D pD5
                    refine ⟨avs, hD5, by rw [ra5.length]; exact hz, g5, wipeS s5 vs, acc ++ [y], avs ++ [v], ?_, sk5, p5, ?_, upd_same, ra5.append (.one ry), hg'⟩
                    · rw [upd_upd]; exact st5
                    · -- the list at D grows: it is nobody's in the store
                      have ow := o5.wipe (vs := vs)
                      rw [show L2.wipe (setAll (L2.wipe σ vs) is ws) vs = L2.wipe σ vs from wipe_setAll hsub] at ow
                      refine ⟨fun b u e => ?_, fun l o e => ?_, ow.inj, ow.env, ow.len, ow.ng, fun b p => ?_⟩
                      · rw [upd_ne (fun z => by rw [z, f5] at e; cases e)]; exact ow.sub b u e
                      · obtain ⟨f, r⟩ := ow.cell l o e
                        exact ⟨f, r.mono (GLe.refl _) (upd_ne fun z => l5 ⟨l, o, (cellOf_wipe e).1, z⟩)⟩
                      · obtain ⟨h1, h2, h3⟩ := ow.prot b p
                        refine ⟨?_, h2, h3⟩
                        by_cases z : b = D
                        · exact ⟨_, by rw [z]; exact upd_same⟩
                        · rw [upd_ne z]; exact h1
                  · rw [if_neg hz] at hg'; cases hg'
              | exc c p s4 => simp only [e3, Res.bind_exc] at hg'; cases hg'
              | stuck => simp only [e3, Res.bind_stuck] at hg'; cases hg'
            | false =>
              rw [if_neg (by decide)] at hg'
              rw [if_neg (by decide)]
              obtain ⟨p5, st5, sk5, hD5, ra5⟩ := acc2 t3 k3
              have ow := o3.wipe (vs := vs)
              rw [show L2.wipe (setAll (L2.wipe σ vs) is ws) vs = L2.wipe σ vs from wipe_setAll hsub] at ow
              exact ⟨g3, wipeS s3 vs, acc, avs, st5, sk5, p5, ow, hD5, ra5, hg'⟩
          | exc c p s3 => simp only [e2] at hg'; cases hg'
          | stuck => simp only [e2] at hg'; cases hg'
      · have e : i = ds.length := by omega
        subst e
        refine .inl ⟨stp, ?_⟩
        rw [List.drop_length] at hg'
        cases hg'
        -- back: D is let go
        have ob := o'.unhold (g0 := g1) (a := D) pp
        obtain ⟨_, fD, lD⟩ := o'.prot D pD
        have npD : ¬ g1.P D := o1.pnone hD
        have obr := o1.rest hno ob (show GLe g1 (g'.wP g1.P) from ⟨lg.F, lg.ng, lg.adr⟩)
        refine h1 (g'.wP g1.P) H' ⟨⟨lg.F, lg.ng, lg.adr⟩, rfl, fun b hb => ?_⟩ sk obr (.ref D) ⟨D, rfl, fD, npD, fun ⟨l, o, e, z⟩ => lD ?_, avs, hD', racc.mono wP_le⟩
        · have hbD : b ≠ D := fun z => npD (z ▸ hb)
          have q := st.keep b (.inl hb)
          rw [upd_ne hbD, upd_ne hbD] at q
          exact q
        · -- a cell of the restored state is one of the block's
          cases l with
          | gl n => exact ⟨.gl n, o, e, z⟩
          | sl j =>
            have hl : s1.env.length = s0.env.length := by
              have h1 := o1.len
              have h2 := o'.len
              rw [wipe_length] at h2
              omega
            have e' : (match (restE s1.env s0.env vs)[j]? with | some (.own o) => some o | _ => none) = some o := e
            rw [restE_get _ _ hl] at e'
            by_cases hj : j ∈ vs
            · rw [if_pos hj] at e'
              split at e'
              · rename_i w q
                have := List.all_eq_true.mp hno j hj
                rw [q] at this
                cases this
              · cases e'
            · rw [if_neg hj] at e'
              exact ⟨.sl j, o, e', z⟩
    · exact h1.elim
  · exact h1.elim
variable {elt tg iter : Expr} {ifs : List Expr} {scope : Scope} {own : List (Str × Nat)} {pos : Pos} {it : S → Res (List D)} {gt : TG} {is : List Nat} {t : D → S → Option S} {mc : S → Res Bool} {me : M}
theorem me_comp (hc : X.calm = true) (hN : X.N.Nodup) (hi : MIt X W tg iter it) (ok : BlkOk X.N X.env.scope scope own) (hgk : MGk X.K gt is t) (hsub : ∀ i ∈ is, i ∈ own.map (·.2))
    (hg : Blk X scope fun Y => PG Y tg gt) (ht : Blk X scope fun Y => MTs Y W0 ifs mc) (he : Blk X scope fun Y => ME Y W0 elt me) (hs : ∀ x, foldedSetIterable iter X.env x = pure x := by intro _; rfl) :
    ME X W (.ListComp elt [⟨tg, iter, ifs, 0⟩] scope pos) (mComp (own.map (·.2)) it t mc me) := by
  have z := pe_lc (pos := pos) (tt := tMT X.K W0 mc) (te := tM X.K W0 me) hc hN hi ok (fun s H C cl fp => hg s H C cl fp) (fun s H C cl fp => ht s H C cl fp) (fun s H C cl fp => he s H C cl fp) hs
  refine pe_imp z fun σ H Q h => ?_
  obtain ⟨g, s, o, h⟩ := h
  exact tLc_of hgk hsub o h
/-- name = [..] on one line, the name a local -/
theorem ms_setComp {i : Nat} {y : Str} {py spos : Pos} (hc : X.calm = true) (hN : X.N.Nodup) (hi : MIt X W tg iter it) (ok : BlkOk X.N X.env.scope scope own) (hgk : MGk X.K gt is t) (hsub : ∀ i ∈ is, i ∈ own.map (·.2))
    (hg : Blk X scope fun Y => PG Y tg gt) (ht : Blk X scope fun Y => MTs Y W0 ifs mc) (he : Blk X scope fun Y => ME Y W0 elt me) (hy : X.N[i]? = some y := by rfl) (hyl : X.env.scope.names.lookup y = some .local := by rfl)
    (hsw : swapsWith (.ListComp elt [⟨tg, iter, ifs, 0⟩] scope pos) (some (.Name y py)) spos.line X.env = pure true := by exact sw_true rfl rfl rfl (by decide +kernel)) (hs : ∀ x, foldedSetIterable iter X.env x = pure x := by intro _; rfl) :
    MS X W (.Assign [.Name y py] (.ListComp elt [⟨tg, iter, ifs, 0⟩] scope pos) spos) (mSet i (mComp (own.map (·.2)) it t mc me)) := by
  have z := ps_setLc (tt := tMT X.K W0 mc) (te := tM X.K W0 me) hc hN hy hyl hsw hi ok (fun s H C cl fp => hg s H C cl fp) (fun s H C cl fp => ht s H C cl fp) (fun s H C cl fp => he s H C cl fp) hs
  refine ps_imp z fun D σ H h => ?_
  obtain ⟨g, s, o, h⟩ := h
  refine tLc_of hgk hsub o ((PostS.bind h).mono fun r g1 s1 H1 t1 k1 o1 h1 v rv => ?_)
  show D.nx (σ.set i (some v)) H1
  split at h1
  · rename_i s2 e2
    obtain ⟨g2, t2, o2⟩ := assign_ok o1 rv e2
    exact h1 _ g2 H1 t2 o2
  · exact h1.elim
end
end MI
/-! # Functions by name -/
namespace MI
open PySem PySem.Spec PyProof.Rows L2

/-- the name x stands for a def that keeps fm's promise -/
structure FnM (P : Program) (w : World) (K : PySem.W.Frag) (mg : Str → Option Value) (base : Heap) (k : Nat) (x : Str) (ps : List Str) (fm : Fm) : Prop where
  ex : ∃ f fd, FnOk P w K mg base (L2.CX P w) k f fd ps (spM K fm) ∧ mg x = some (.ref f) ∧ PySem.W.keepIn K (.ref f) = true ∧ Binds K fd ps [] ∧
    (∃ oc od osl, K.lookup f = some ⟨oc, od, .func fd, osl⟩) ∧ ∀ (s : Shared) (us : List Value), us.length = ps.length → BindsTo s fd ⟨us, []⟩ (ps.zip us)
/-- every parameter is given by place -/
def BindOk (x : Str) (args : Arguments) (body : List Stmt) (scope : Scope) (ps : List Str) : Prop :=
  ∀ (kV doc pm : Value) (an : Option Addr) (cdv ct : Value) (us : List Value), us.length = ps.length → bindArgs (PySem.W.fnOf x x args body scope .none kV doc pm an cdv ct) ⟨us, []⟩ = pure (ps.zip us)
/-- what the head says of a def by name -/
def DefM (K : PySem.W.Frag) (mg : Str → Option Value) (x : Str) (args : Arguments) (body : List Stmt) (scope : Scope) : Prop :=
  ∃ f fd, FunD K x x args body scope [] [] f fd ∧ mg x = some (.ref f)
section
variable {X : Cx} {W : WX} {e : Expr} {es : List Expr} {m : S → Res (List D)} {pos p : Pos} {k j : Nat} {ps : List Str} {fm : Fm} {x : Str}
theorem me_fn (F : FnM X.prog X.w X.K X.mg X.base k x ps fm) (hr : Room j X.A) (hj : k ≤ j) (hg : Gl X x) (tk : Takes X W)
    (ha : MA X W (e :: es) m) (hdb : (x == ("__debug__" : Str)) = false := by decide) (he : starEach (e :: es) X.env = (false, eval e X.env) :: starEach es X.env := by rfl) (hpl : (backTo pos (starEach es X.env)).any (·.1) = false := by rfl) :
    ME X W (.Call (.Name x p) (e :: es) [] pos) (mCall fm m) := by
  obtain ⟨f, fd, F1, hm, hk, hb, _⟩ := F.ex
  exact me_call F1 (hr.mono hj) hg hm hk hb tk ha hdb he hpl
end
abbrev wx (E : XK) : WX := fun cls d _ H => E cls d H
theorem takesC {P : Program} {w : World} {K : PySem.W.Frag} {mg : Str → Option Value} {base : Heap} {N : List Str} {qual : Str} {scope : Scope} {f : Addr} {cd : Value} {A : Around} {outer : List Env} {s : Shared} {H : Hp} {E : XK} :
    Takes (cxOf (L2.CX P w) P w K mg base N qual scope f cd A outer s H E) (wx E) := L2.takes_of rfl rfl rfl rfl
theorem takesB {X : Cx} : Takes X W0 := L2.takes0
theorem owns {P : Program} {w : World} {K : PySem.W.Frag} {mg : Str → Option Value} {base : Heap} {N : List Str} {qual : Str} {scope : Scope} {f : Addr} {cd : Value} {A : Around} {outer : List Env} {s : Shared} {H : Hp} {E : XK} {CX : CXT} :
    PassesOwn (model P w) (cxOf CX P w K mg base N qual scope f cd A outer s H E).A (cxOf CX P w K mg base N qual scope f cd A outer s H E).env (cxOf CX P w K mg base N qual scope f cd A outer s H E).xe :=
  passes_of (X := cxOf CX P w K mg base N qual scope f cd A outer s H E) (K := fun e s'' => CX outer H s E e s'') (E₁ := fun e' s'' => CX outer H s E e' s'') rfl
theorem mss_stuck {X : Cx} {W : WX} {st : List Stmt} : MSs X W st (fun _ => .stuck) := pss_imp pss_never fun D σ H ⟨g, s, ok, h⟩ => h
section
variable {P : Program} {w : World} {K : PySem.W.Frag} {mg : Str → Option Value} {base : Heap} {x : Str} {args : Arguments} {body : List Stmt} {scope : Scope} {N ps : List Str} {k : Nat} {m : S → Res Out}
theorem fnM (F : DefM K mg x args body scope) (Sc : FnScope N ps scope) (hN : ps.length ≤ N.length)
    (hB : BindOk x args body scope ps)
    (hbody : ∀ (f : Addr) (cdv : Value) (A : Around) (outer : List Env) (s : Shared) (H : Hp) (E : XK), Room k (A.deeper (envOfC x scope s.heap.objs.size f cdv)) →
      MSs (cxOf (L2.CX P w) P w K mg base N x scope f cdv A outer s H E) (wx E) body m) :
    FnM P w K mg base (k + 1) x ps (mDef ps.length N.length m) := by
  obtain ⟨f, fd, F1, hm⟩ := F
  refine ⟨f, fd, fn_mirror F1 Sc hN (fun cdv A outer s H E hr => hbody f cdv A outer s H E hr), hm, F1.kp, F1.bindsN hB, ?_, F1.bindsA hB⟩
  obtain ⟨oc, od, dV, kV, doc, pm, an, cdv, ct, osl, e, lk, _⟩ := F1.ex
  exact ⟨oc, od, osl, e ▸ lk⟩
end

/-! ### names of the module -/
section
variable {X : Cx} {W : WX} {x : Str} {pos : Pos}
def GInt (mg : Str → Option Value) (x : Str) (i : Int) : Prop := ∃ t, mg x = some (.int i t)
def GStr (mg : Str → Option Value) (x : Str) (z : Str) : Prop := ∃ t, mg x = some (.str z t)
/-- a tuple of the module, for good -/
def GTup (K : PySem.W.Frag) (mg : Str → Option Value) (x : Str) (vs : List V) : Prop := ∃ a, mg x = some (.ref a) ∧ ∀ H, SqT K H a vs
theorem me_gint {i : Int} (h : GInt X.mg x i) (hg : Gl X x) (hd : (x == ("__debug__" : Str)) = false := by decide) : ME X W (.Name x pos) (mC (.int i)) := by
  obtain ⟨t, e⟩ := h
  exact me_glob hg e (v := .int i) ⟨t, rfl⟩ (fun g => .int i) hd
theorem me_gstr {z : Str} (h : GStr X.mg x z) (hg : Gl X x) (hd : (x == ("__debug__" : Str)) = false := by decide) : ME X W (.Name x pos) (mC (.str z)) := by
  obtain ⟨t, e⟩ := h
  exact me_glob hg e (v := .str z) ⟨t, rfl⟩ (fun g => .str z) hd
theorem me_gtup {vs : List V} {ds : List D} (h : GTup X.K X.mg x vs) (r : ∀ g, RepL X.K g vs ds) (hg : Gl X x) (hd : (x == ("__debug__" : Str)) = false := by decide) : ME X W (.Name x pos) (mC (.tup ds)) := by
  obtain ⟨a, e, q⟩ := h
  exact me_glob hg e (v := .ref a) rfl (fun g => .tup (q g.F) (r g)) hd
end
/-- a block's own names, seen by a test -/
def blkB (N : List Str) (sc scope : Scope) (own : List (Str × Nat)) : Bool :=
  decide (scope.kind = .function) && (decide (∀ y ∈ scope.names, scope.names.lookup y.1 = some y.2) && (decide (∀ p ∈ own, N[p.2]? = some p.1) &&
    (decide (∀ y ∈ scope.names, y.2 = .free → sc.names.lookup y.1 = some .cell ∨ sc.names.lookup y.1 = some .free) &&
      decide (∀ y ∈ scope.names, y.2 = .local ∨ y.2 = .cell → y.1 ∈ own.map (·.1) ∨ y.1 ∉ N))))
theorem blk_of {N : List Str} {sc scope : Scope} {own : List (Str × Nat)} (h : blkB N sc scope own = true) : BlkOk N sc scope own := by
  unfold blkB at h
  simp only [Bool.and_eq_true, decide_eq_true_eq] at h
  obtain ⟨h1, h2, h3, h4, h5⟩ := h
  exact ⟨h1, h2, h3, h4, h5⟩
def scB (N P : List Str) (sc : Scope) : Bool :=
  decide (sc.kind = .function) && (!sc.isCoroutine && (!sc.isGenerator && (decide N.Nodup && (decide (N.take P.length = P) && (decide (∀ x ∈ P, sc.names.lookup x = some .local ∨ sc.names.lookup x = some .cell) && decide (∀ y ∈ sc.names, y.2 ≠ .free))))))
theorem sc_of {N P : List Str} {sc : Scope} (h : scB N P sc = true) : FnScope N P sc := by
  unfold scB at h
  simp only [Bool.and_eq_true, decide_eq_true_eq, Bool.not_eq_true'] at h
  obtain ⟨h1, h2, h3, h4, h5, h6, h7⟩ := h
  exact ⟨h1, h2, h3, h4, h5, h6, h7⟩
end MI
/-! # Repetition, stores at a place, shared objects -/
namespace MI
open PySem PySem.Spec PyProof.Rows L2

/-! ### a tuple once, or an empty one: the same object -/
theorem tuple_mul_same (l : Addr) (items : Array Value) (n : Nat) (dd : Option Addr) (sl : Array (Option Value)) (x : Int) (u : Tok) (c0 : (decide (x < -(2 ^ 63)) || decide (x ≥ 2 ^ 63)) = false) (c1 : (items.isEmpty || x == 1) = true) :
    Meets (Builtin.«tuple.__mul__» ⟨[.ref l, .int x u], []⟩) (fun _ R s => s.heap.get? l = some { cls := .type "tuple", dict := dd, data := .seq items n, slots := sl } ∧ R (.ok (.ret (Value.ref l))) s) :=
  .of_wp fun prog w A R s h => by
    obtain ⟨hp, g, d, tk, os⟩ := s
    obtain ⟨hl, h⟩ := h
    have f1 := AutoSeq1.idx_int
    wp_walk using wpAny_loadPart' hl
    repeat (first
      | (refine wpAny_ite_false (decide_eq_false (by rw [c0]; exact Bool.false_ne_true)) ?_; wp_walk using wpAny_loadPart' hl)
      | (refine wpAny_ite_true (decide_eq_true c1) ?_; wp_walk using wpAny_loadPart' hl))
    all_goals exact ⟨_, rfl, h⟩
def rSameT (K : PySem.W.Frag) : R2 := fun x y H Q => ∃ l k xs, x = .ref l ∧ y = .int k ∧ SqT K H l xs ∧ (xs = [] ∨ k = 1) ∧ -(2 ^ 63) ≤ k ∧ k < 2 ^ 63 ∧ Q x H

section
variable {X : Cx} {W : WX}
theorem op_sameT : OpR X (binaryOp .Mult) (rSameT X.K) := by
  intro pins s σ H x y v u Q I rx ry h
  obtain ⟨l, k, xs, rfl, rfl, hT, hone, h1, h2, q⟩ := h
  cases rx
  obtain ⟨t, rfl⟩ := ry
  obtain ⟨its, r, ⟨⟨cls, dd, data, sl⟩, ho, hc, n, hd⟩, hs⟩ := I.tuple hT
  simp only at hc hd
  subst hc hd
  have same : (its.toArray.isEmpty || k == 1) = true := by
    rcases hone with z | z
    · subst z
      cases r
      rfl
    · subst z
      simp
  have inr : (decide (k < -(2 ^ 63)) || decide (k ≥ 2 ^ 63)) = false := by
    have a : ¬ k < -(2 ^ 63) := by omega
    have b : ¬ k ≥ 2 ^ 63 := by omega
    simp only [decide_eq_false a, decide_eq_false b, Bool.or_self]
  refine wpAny_binaryOp_repeat_ref (T := "tuple") (U := "int") (by decide) ⟨_, ho, rfl⟩ (fun s' => typeIs_int s' k t) noFill_tuple_mul F.fills_int_mul F.slot_int_rmul repeat_tuple F.slot_int_index.lookup ?_
  refine call_meets F.slot_int_rmul (typeIs_int s k t) F.entry_int_rmul (F.args_int_rmul_2 _ _) (int_rmul_tuple k t l its.toArray n dd sl) ⟨ho, rfl, ⟨_, ho, rfl⟩, ?_⟩
  exact call_meets F.slot_tuple_mul ⟨_, ho, rfl⟩ F.entry_tuple_mul (F.args_tuple_mul_2 _ _) (tuple_mul_same l its.toArray n dd sl k t inr same) ⟨ho, ⟨.ref l, H, I, rfl, q⟩⟩
/-- a text repeated -/
def repS (x : Str) (n : Int) : Str := if n < 1 then Str.empty else if (n == 1 || x.length == 0) = true then x else ⟨(List.replicate n.toNat x.cps).foldl (· ++ ·) #[]⟩
def rRepS : R2 := fun x y H Q => ∃ (z : Str) (k : Int), x = .str z ∧ y = .int k ∧ -1000 ≤ k ∧ k ≤ 1000 ∧ z.length ≤ 1000 ∧ Q (.str (repS z k)) H
theorem op_repS : OpR X (binaryOp .Mult) rRepS := by
  intro pins s σ H x y v u Q I rx ry h
  obtain ⟨z, k, rfl, rfl, h1, h2, hz, q⟩ := h
  obtain ⟨t, rfl⟩ := rx
  obtain ⟨t', rfl⟩ := ry
  refine PySem.P.mul_str ?_ (fun c1 _ => ?_) (fun c1 _ => ?_) ?_
  · have a : ¬ k < -(2 ^ 63) := by omega
    have b : ¬ k ≥ 2 ^ 63 := by omega
    simp only [decide_eq_false a, decide_eq_false b, Bool.or_self]
  · have k1 : 1 ≤ k := by omega
    have a1 : (1000 : Int) ≤ (2 ^ 63 - 1) / k := by
      rw [Int.le_ediv_iff_mul_le (by omega)]
      omega
    omega
  · have a1 : z.length * k.toNat ≤ 1000 * 1000 := Nat.mul_le_mul hz (by omega)
    have : ¬ (z.length * k.toNat > sizeLine) := by rw [sizeLine_eq]; omega
    exact decide_eq_false this
  · unfold repS at q
    split
    · rename_i c
      rw [if_pos c] at q
      exact ⟨by rw [sizeLine_eq]; decide, .str Str.empty, H, I.tok _, ⟨_, rfl⟩, q⟩
    · rename_i c
      rw [if_neg c] at q
      split
      · rename_i c2
        rw [if_pos c2] at q
        exact ⟨.str z, H, I, ⟨_, rfl⟩, q⟩
      · rename_i c2
        rw [if_neg c2] at q
        refine ⟨?_, .str _, H, I.tok _, ⟨_, rfl⟩, q⟩
        have key : ∀ (m : Nat) (acc : Array Nat), ((List.replicate m z.cps).foldl (· ++ ·) acc).size = acc.size + m * z.cps.size := by
          intro m
          induction m with
          | zero => intro acc; simp
          | succ m ih => intro acc; rw [List.replicate_succ, List.foldl_cons, ih, Array.size_append, Nat.succ_mul]; omega
        show ((List.replicate k.toNat z.cps).foldl (· ++ ·) #[]).size ≤ sizeLine
        rw [key]
        have a1 : k.toNat * z.cps.size ≤ 1000 * 1000 := Nat.mul_le_mul (by omega) hz
        rw [sizeLine_eq]
        simp
        omega
def opMulT : S → RV → RV → Res RV := fun s a b => match asTup a, asInt b with
  | some xs, some k => if (xs.isEmpty || k == 1) = true then (if -(2 ^ 63) ≤ k ∧ k < 2 ^ 63 then .ok (.d (.tup xs)) s else .stuck)
    else if 2 ≤ k ∧ k ≤ 1000 ∧ xs.length ≤ 1000 then .ok (.d (.tup (List.replicate k.toNat xs).flatten)) s else .stuck
  | _, _ => .stuck
def opMulS : S → RV → RV → Res RV := fun s a b => match asStr a, asInt b with
  | some x, some k => if -1000 ≤ k ∧ k ≤ 1000 ∧ x.length ≤ 1000 then .ok (.d (.str (repS x k))) s else .stuck
  | _, _ => .stuck
def opMulL : S → RV → RV → Res RV := fun s a b => match asLst s a, asInt b with
  | some xs, some k => if -(2 ^ 63) ≤ k ∧ k < 2 ^ 63 ∧ xs.length * k.toNat ≤ sizeLine then .ok (.new (.lst (List.replicate k.toNat xs).flatten)) s else .stuck
  | _, _ => .stuck
theorem RepL.rep {K : PySem.W.Frag} {g : G} {vs : List V} {ds : List D} (r : RepL K g vs ds) : ∀ k : Nat, RepL K g (List.replicate k vs).flatten (List.replicate k ds).flatten
  | 0 => .nil
  | k + 1 => by
    rw [List.replicate_succ, List.replicate_succ, List.flatten_cons, List.flatten_cons]
    exact r.append (r.rep k)
theorem os_mulT : OpS X W (fun x y H Q => rSameT X.K x y H Q ∨ rRepT X.K x y H Q) opMulT := by
  intro σ g s H Q x y ra rb ok rx ry nn q
  unfold opMulT at q
  split at q
  · rename_i xs k e1 e2
    obtain ⟨a, vs, rfl, h1, r1⟩ := asTup_ok ok rx e1
    have e := asInt_ok ry e2
    subst e
    split at q
    · rename_i c
      split at q
      · rename_i hk
        refine .inl ⟨a, k, vs, rfl, rfl, h1, ?_, hk.1, hk.2, kE_d q ok ?_⟩
        · simp only [Bool.or_eq_true, List.isEmpty_iff, beq_iff_eq] at c
          rcases c with c | c
          · exact .inl ((RepL.nil_iff r1).mpr c)
          · exact .inr c
        · cases ra with
          | d w =>
            cases w <;> first | cases e1
            exact rx
          | «at» _ => cases e1
          | new _ => cases e1
      · exact q.elim
    · rename_i c
      split at q
      · rename_i hk
        refine .inr ⟨a, k, vs, rfl, rfl, h1, fun z => ?_, hk.1, hk.2.1, by rw [r1.length]; exact hk.2.2, fun p hp => kE_tup q ok hp (r1.rep _)⟩
        have := (RepL.nil_iff r1).mp z
        subst this
        exact c rfl
      · exact q.elim
  · exact q.elim
theorem os_mulS : OpS X W rRepS opMulS := by
  intro σ g s H Q x y ra rb ok rx ry nn q
  unfold opMulS at q
  split at q
  · rename_i z k e1 e2
    split at q
    · rename_i h
      exact ⟨z, k, asStr_ok rx e1, asInt_ok ry e2, h.1, h.2.1, h.2.2, kE_d q ok (.str _)⟩
    · exact q.elim
  · exact q.elim
theorem os_mulL : OpS X W rRep opMulL := by
  intro σ g s H Q x y ra rb ok rx ry nn q
  unfold opMulL at q
  split at q
  · rename_i xs k e1 e2
    obtain ⟨a, vs, rfl, h1, r1⟩ := asLst_ok ok rx e1
    have e := asInt_ok ry e2
    subst e
    split at q
    · rename_i h
      exact ⟨a, k, vs, rfl, rfl, h1, h.1, h.2.1, by rw [r1.length]; exact h.2.2, fun p hp => kE_new q ok hp ⟨_, upd_same, r1.rep _⟩⟩
    · exact q.elim
  · exact q.elim
def opMul := orF opMulI (orF opMulT (orF opMulS opMulL))
variable {a b o i e : Expr} {ma mb mo mi me : M} {pos pos' apos cpos : Pos}
theorem me_mul (ha : ME X W a ma) (hb : ME X W b mb) : ME X W (.BinOp a .Mult b pos) (mBin opMul ma mb) :=
  me_bin (op_mul2.or ((op_sameT.or op_repT).or (op_repS.or op_rep))) (os_mulI.or (os_mulT.or (os_mulS.or os_mulL))) ha hb
end

/-! ### a new object comes into the shared store -/
def mAlloc (m : M) : M := fun s => (m s).bind fun r s1 => match r with
  | .new o => .ok (.d (.ref s1.gl.length)) { s1 with gl := s1.gl ++ [o] }
  | _ => .stuck
section
variable {K : PySem.W.Frag} {W : WX} {σ : L2.St} {g : G} {s : S} {H : Hp}
def G.add (g : G) (a : Addr) : G := { g with adr := fun l => if l = .gl g.ng then a else g.adr l, ng := g.ng + 1 }
theorem add_le {a : Addr} : GLe g (g.add a) := ⟨Sub.refl _, Nat.le_succ _, fun n h => if_neg fun z => by cases z; exact Nat.lt_irrefl _ h⟩
theorem Ok.add {a : Addr} {o : MObj} (ok : Ok K g s σ H) (n : g.F a = none) (np : ¬ g.P a) (nl : ¬ Live g s a) (q : ObjRep K g H a o) :
    Ok K (g.add a) { s with gl := s.gl ++ [o] } σ H := by
  have cs : ∀ l w, cellOf { s with gl := s.gl ++ [o] } l = some w → (l = .gl g.ng ∧ w = o) ∨ (l ≠ .gl g.ng ∧ cellOf s l = some w) := by
    intro l w e
    cases l with
    | sl i => exact .inr ⟨(fun z => nomatch z), e⟩
    | gl m =>
      have e' : (s.gl ++ [o])[m]? = some w := e
      by_cases h : m < s.gl.length
      · rw [List.getElem?_append_left h] at e'
        exact .inr ⟨fun z => by cases z; have := ok.ng; omega, e'⟩
      · rw [List.getElem?_append_right (by omega)] at e'
        have hm : m - s.gl.length = 0 := by
          cases hq : m - s.gl.length with
          | zero => rfl
          | succ z => rw [hq] at e'; cases e'
        rw [hm] at e'
        cases e'
        exact .inl ⟨by rw [ok.ng]; exact congrArg Loc.gl (by omega), rfl⟩
  have a0 : (g.add a).adr (.gl g.ng) = a := if_pos rfl
  have a1 : ∀ l, l ≠ .gl g.ng → (g.add a).adr l = g.adr l := fun l h => if_neg h
  have ne : ∀ l w, cellOf s l = some w → g.adr l ≠ a := fun l w h z => nl ⟨l, w, h, z⟩
  refine ⟨ok.sub, fun l w e => ?_, fun l l' w w' e e' z => ?_, fun i x e => (ok.env i x e).mono add_le (fun i => a1 _ (fun z => nomatch z)), ok.len, ?_, fun b p => ?_⟩
  · rcases cs l w e with ⟨rfl, rfl⟩ | ⟨h, e⟩
    · rw [a0]; exact ⟨n, q.mono add_le rfl⟩
    · rw [a1 l h]
      obtain ⟨f, r⟩ := ok.cell l w e
      exact ⟨f, r.mono add_le rfl⟩
  · rcases cs l w e with ⟨e1, _⟩ | ⟨h, en⟩
    · rcases cs l' w' e' with ⟨e2, _⟩ | ⟨h', en'⟩
      · exact e1.trans e2.symm
      · rw [e1, a0, a1 l' h'] at z
        exact absurd z.symm (ne l' w' en')
    · rcases cs l' w' e' with ⟨e2, _⟩ | ⟨h', en'⟩
      · rw [e2, a0, a1 l h] at z
        exact absurd z (ne l w en)
      · rw [a1 l h, a1 l' h'] at z
        exact ok.inj l l' w w' en en' z
  · show g.ng + 1 = (s.gl ++ [o]).length
    rw [List.length_append, ok.ng]; rfl
  · obtain ⟨h1, h2, h3⟩ := ok.prot b p
    refine ⟨h1, h2, fun ⟨l, w, e, z⟩ => ?_⟩
    rcases cs l w e with ⟨rfl, rfl⟩ | ⟨h, e⟩
    · rw [a0] at z
      exact np (z ▸ p)
    · rw [a1 l h] at z
      exact h3 ⟨l, w, e, z⟩
end
section
variable {X : Cx} {W : WX} {a b o i e : Expr} {ma mb mo mi me : M} {pos pos' apos cpos : Pos}
theorem me_alloc (h : ME X W e me) : ME X W e (mAlloc me) := by
  refine pe_imp h fun σ H Q ⟨g, s, ok, h⟩ => ?_
  refine ⟨g, s, ok, (PostE.bind h).mono fun r g1 s1 H1 t1 k1 o1 h1 v rv => ?_⟩
  cases r with
  | d x => exact h1.elim
  | «at» j => exact h1.elim
  | new w =>
    obtain ⟨p, rfl, n, np, nl, q⟩ := rv
    have o2 := o1.add n np nl q
    refine h1 (g1.add p) H1 ⟨add_le, rfl, fun _ _ => rfl⟩ (fun j => show (if Loc.sl j = Loc.gl g1.ng then p else g1.adr (.sl j)) = g1.adr (.sl j) from if_neg (by intro z; cases z)) o2 _ ?_
    have := Rep.ref (K := X.K) (g := g1.add p) g1.ng (Nat.lt_succ_self _)
    rw [show (g1.add p).adr (.gl g1.ng) = p from if_pos rfl] at this
    rw [← o1.ng]
    exact this

/-! ### xs.pop(i) -/
def fPopAt : List D → D → Option (D × List D) := fun xs d => match d with
  | .int i => if -(2 ^ 63) ≤ i ∧ i < 2 ^ 63 then (match seqIndex? i xs.length with
    | some k => (match xs[k]? with
      | some y => some (y, xs.eraseIdx k)
      | none => none)
    | none => none) else none
  | _ => none
theorem me_popAt (ho : ME X W o mo) (ha : ME X W a ma) (hbase : attributeBase o "pop" X.env (eval o X.env) = eval o X.env := by rfl)
    (hfew : ((backTo cpos (starEach [a] X.env)).all (fun x => !x.1) && (backToKw cpos (keywordEach [] X.env)).all (fun x => x.1.isSome)
      && decide ([a].length + ([] : List Keyword).length + (if ([] : List Keyword).isEmpty then 0 else 1) < 30)) = true := by rfl)
    (hline : (apos.endLine == cpos.line) = true := by rfl) (hs : starEach [a] X.env = (false, eval a X.env) :: starEach [] X.env := by rfl) :
    ME X W (.Call (.Attribute o "pop" apos) [a] [] cpos) (mLm1 fPopAt mo ma) := by
  have z := pe_bm PySem.F.plainAttrs_list PySem.F.slot_list_pop PySem.F.type_list_pop mt_popAt ho (pa_cons ha pa_nil hs) hbase hfew hline hs
  refine pe_imp z fun σ H Q h => ?_
  obtain ⟨g, s, ok, h⟩ := h
  refine mLm1_of (fun g l vs xs y d x ys H Q rvs ry hl e q => ?_) ok h
  clear h
  obtain ⟨i, rfl⟩ : ∃ i, d = .int i := by
    cases d <;> first | exact ⟨_, rfl⟩ | (exact absurd e (by simp [fPopAt]))
  cases ry
  have e : (if -(2 ^ 63) ≤ i ∧ i < 2 ^ 63 then (match seqIndex? i xs.length with
    | some k => (match xs[k]? with
      | some y => some (y, xs.eraseIdx k)
      | none => none)
    | none => none) else none) = some (x, ys) := e
  split at e
  · rename_i hi
    split at e
    · rename_i k ek
      split at e
      · rename_i w ew
        cases e
        obtain ⟨u, hu, ru⟩ := rvs.get ew
        exact ⟨l, vs, i, k, u, rfl, rfl, hl, hi.1, hi.2, by rw [rvs.length]; exact ek, hu, q u _ ru (rvs.eraseIdx k)⟩
      · cases e
    · cases e
  · cases e

/-! ### o[i] = e -/
def mSetIx (v o i : M) : S → Res Out := fun s => (mLeak v s).bind fun d s1 => (o s1).bind fun r s2 => match locOf r with
  | some l => (match cellOf s2 l with
    | some _ => (mLeak i s2).bind fun k s3 => (match cellOf s3 l, k with
      | some (.lst xs), .int k => (match ixN xs.length k with
        | some j => .ok .nx (setCell s3 l (.lst (xs.set j d)))
        | none => .stuck)
      | _, _ => .stuck)
    | _ => .stuck)
  | none => .stuck
theorem loc_held {K : PySem.W.Frag} {σ : L2.St} {g g' : G} {s : S} {H H' : Hp} {l : Loc} {o : MObj} (ok : Ok K g s σ H) (e : cellOf s l = some o) (t : Step g H g' H') (k : SlKeep g g') : g'.adr l = g.adr l := by
  cases l with
  | sl i => exact k i
  | gl n => exact t.le.adr n (by rw [ok.ng]; exact gl_cell e)
theorem ms_setIx (hv : ME X W e me) (ho : ME X W o mo) (hi : ME X W i mi)
    (hs : swapsWithSole [.Subscript o i pos'] e pos.line X.env = pure false := by rfl) (hw : swappedStores [.Subscript o i pos'] e X.env = pure none := by rfl)
    (h1 : (assignEach [.Subscript o i pos'] X.env).map (·.2) = [PySem.assign (.Subscript o i pos') X.env] := by rfl)
    (hg : ∀ v, PySem.assign (.Subscript o i pos') X.env v = (do
      let ov ← holding [v] (eval o X.env)
      let iv ← holding [v, ov] (eval i X.env)
      standAt pos'
      holding [v, ov, iv] (setItem ov iv v)
      release [v, ov, iv] []) := by intro _; rfl) : MS X W (.Assign [.Subscript o i pos'] e pos) (mSetIx me mo mi) := by
  have z := ps_asg hv (pg_sub ho hi set_list hg) hs hw h1
  refine ps_imp z fun D σ H h => ?_
  obtain ⟨g, s, ok, h⟩ := h
  refine tM_leak ok (k := fun d g1 s1 H1 => PostS X.K W g1 s1 H1 D ((mo s1).bind fun r s2 => match locOf r with
  | some l => (match cellOf s2 l with
    | some _ => (mLeak mi s2).bind fun k s3 => (match cellOf s3 l, k with
      | some (.lst xs), .int k => (match ixN xs.length k with
        | some j => .ok .nx (setCell s3 l (.lst (xs.set j d)))
        | none => .stuck)
      | _, _ => .stuck)
    | _ => .stuck)
  | none => .stuck)) (PostS.bind h) fun d g1 s1 H1 v t1 k1 o1 rv h1 => ?_
  refine ⟨g1, s1, o1, (PostS.bind h1).mono fun r g2 s2 H2 t2 k2 o2 h2 u ru => ?_⟩
  split at h2
  · rename_i l e1
    have hu := locOf_ok ru e1
    subst hu
    split at h2
    · rename_i w e2
      refine tM_leak o2 (PostS.bind h2) fun dk g3 s3 H3 y t3 k3 o3 ry h3 => ?_
      have el := loc_held o2 e2 t3 k3
      split at h3
      · rename_i xs k e3
        cases ry
        split at h3
        · rename_i j ej
          obtain ⟨vs, hvs, rvs⟩ := cell_lst o3 e3
          refine ⟨_, vs, k, j, rfl, rfl, by rw [← el]; exact hvs, by rw [rvs.length]; exact ej, ?_⟩
          rw [← el]
          obtain ⟨o4, t4⟩ := o3.change (o' := .lst (xs.set j d)) (ho := .lst (vs.set j v)) e3 ⟨_, upd_same, RepL.set ((rv.mono t2.le).mono t3.le) j rvs⟩
          exact h3 _ _ _ t4 o4
        · exact h3.elim
      · exact h3.elim
    · exact h2.elim
  · exact h2.elim
end
end MI
/-! # An own exception whose __init__ says super().__init__(text + str(place)), then self.f = place -/
namespace MI
open PySem PySem.Spec PyProof.Rows L2

/-- what the written part says of the class at C and of its __init__ -/
structure BbF (P : Program) (K : PySem.W.Frag) (C fI cda cc : Addr) (qual : Str) (params : Arguments) (body : List Stmt) (scope : Scope) (f : Str) : Prop where
  T : OexC K C
  iC : PySem.W.findIn K (.ref C) "__init__" = some (some (.ref fI))
  tI : PySem.W.typeIn K (.ref fI) = some (.type "function")
  fn : ∃ oc od doc pm an ct osl, K.lookup fI = some ⟨oc, od, .func (PySem.W.ksFn "__init__" qual params body scope .none .none doc pm an (.ref cda) ct cc), osl⟩
  hcd : PySem.W.codeIn K (.ref cda) qual = true
  code : ∃ ccl cdd vs ccs file tf, K.lookup cda = some ⟨ccl, cdd, .fields vs, ccs⟩ ∧ vs[2]? = some (.str file tf) ∧ ((P.main.file : Str) == file) = true
  cell : ∃ cl cld csl, K.lookup cc = some ⟨cl, cld, .cell (some (.ref C)), csl⟩
  cls : ∃ cd, PySem.W.clsIn K C = some cd
  sub : PySem.W.mroIn K C (.ref C) = some true
  sup : PySem.W.ks_superIn K C C "__init__" = some (some (.builtin "ValueError.__init__"))
  ve : PySem.W.subIn K (.ref C) (.type "ValueError") = some true
  any : PySem.W.nsIn K cStatics "thirdparty.any" = some none
  exi : ∃ bmB, ExcBaseFacts "ValueError" "ValueError.__new__" "ValueError.__init__" bmB ∧ PySem.W.excInitIn K C bmB "ValueError.__new__" = true
  fld : PySem.W.findIn K (.ref C) f = some none
/-- the def's own places -/
structure BbP where
  p0 : Pos
  p1 : Pos
  p2 : Pos
  p3 : Pos
  p4 : Pos
  p5 : Pos
  p6 : Pos
  p7 : Pos
  p8 : Pos
  p9 : Pos
  q0 : Pos
  q1 : Pos
  q2 : Pos
  q3 : Pos
  msg : Str
  j : Nat
def BbP.arg (b : BbP) : Expr := .BinOp (.Constant (.str b.msg) b.j b.p3) .Add (.Call (.Name "str" b.p4) [.Name "place" b.p5] [] b.p6) b.p7
def BbP.call (b : BbP) : Expr := .Call (.Attribute (.Call (.Name "super" b.p0) [] [] b.p1) "__init__" b.p2) [b.arg] [] b.p8
def BbP.set (b : BbP) (f : Str) : Stmt := .Assign [.Attribute (.Name "self" b.q0) f b.q1] (.Name "place" b.q2) b.q3
def BbP.body (b : BbP) (f : Str) : List Stmt := [.Expr b.call b.p9, b.set f]
/-- the def's own shape -/
structure BbS (P : Program) (params : Arguments) (scope : Scope) (b : BbP) (f : Str) (qual : Str) : Prop where
  msg : b.msg.length ≤ 1000
  ev : ∀ env : Env, env.scope = scope → ∃ pl, eval b.call env = (do
      let ov ← attributeBase (.Call (.Name "super" b.p0) [] [] b.p1) "__init__" env (eval (.Call (.Name "super" b.p0) [] [] b.p1) env)
      standAt b.p2.atName
      let (f, first) ← holding [ov] (getMethod ov "__init__" pl)
      callWith b.p8 f first (backTo b.p8 (starEach [b.arg] env)) [])
  st : ∀ env : Env, env.scope = scope → interactive env = false ∧ swapsWith b.call none b.p9.line env = pure false ∧ swapsWith (.Name "place" b.q2) (some (.Attribute (.Name "self" b.q0) f b.q1)) b.q3.line env = pure false
  sp : ∀ env : Env, env.scope = scope → starEach [b.arg] env = [(false, eval b.arg env)] ∧ starEach [.Name "place" b.p5] env = [(false, eval (.Name "place" b.p5) env)]
  par : ∃ ar, (params.posonlyargs ++ params.args).head? = some ar ∧ ar.arg = "self"
  bind : ∀ (doc pm : Value) (an : Option Addr) (cdv ct : Value) (cc : Addr) (u v : Value), bindArgs (PySem.W.ksFn "__init__" qual params (b.body f) scope .none .none doc pm an cdv ct cc) ⟨[u, v], []⟩ = pure [(("self" : Str), u), (("place" : Str), v)]
  kind : scope.kind = .function
  co : scope.isCoroutine = false
  gen : scope.isGenerator = false
  self : scope.names.lookup ("self" : Str) = some .local
  place : scope.names.lookup ("place" : Str) = some .local
  sup : scope.names.lookup ("super" : Str) = some .globalImplicit
  str : scope.names.lookup ("str" : Str) = some .globalImplicit
  cl : scope.names.lookup ("__class__" : Str) = some .free
  nocell : ∀ x ∈ scope.names, x.2 ≠ .cell
  top : (P.main.scope.names.lookup ("super" : Str)).isSome = false
section
open PySem.W PySem.Calls
variable {P : Program} {w : World} {K : Frag} {C fI cda cc : Addr} {qual f : Str} {params : Arguments} {b : BbP} {scope : Scope} {A : Around} {hp h1 : Heap} {g : Array GenState} {d : Drawn} {t : Nat} {os : OsState} {mg : Str → Option Value} {R : Result → Shared → Prop} {e t1 : Addr} {i : Int} {tk : Tok}
theorem log_small {n : Nat} (h : n ≤ 1000000) : n.log2 < 1920 := by
  by_cases z : n = 0
  · subst z; decide
  · rw [Nat.log2_lt z]
    exact Nat.lt_of_le_of_lt h (by decide +kernel)
theorem bb_run (B : BbF P K C fI cda cc qual params (b.body f) scope f) (S : BbS P params scope b f qual) (X : K.In hp) (hg : hp.Ns mainGlobals mg) (hb : ∃ mb, hp.Ns builtinsNs mb ∧ ∀ x : Str, x ≠ "__name__" → mb x = bootBuiltins x) (nl : hp.NoLimit)
    (hsup : mg "super" = none) (hstr : mg "str" = none) (hroom : A.depth < recursionLimit) (hi : i.natAbs ≤ 1000000) (kk : ∀ b o, hp.get? b = some o → h1.get? b = some o) (hsz : hp.objs.size ≤ e) (he : h1.get? e = some (excObj C t1 none .none))
    (hR : ∀ h2 tk' t' dx, (∀ b o, hp.get? b = some o → h2.get? b = some o) → hp.objs.size ≤ dx → dx ≠ e → h2.get? e = some ({ cls := .ref C, dict := some dx, data := .fields #[.ref t', .none, .none, .none, .bool false, .none] } : Obj) →
      h2.Ns1 dx (fun y => if y = f then some (.int i tk) else none) → R (.ok (.ret .none)) ⟨h2, g, d, tk', os⟩) :
    codeAny (model P w) A (.call (.ref fI) ⟨[.ref e, .int i tk], []⟩) R ⟨h1, g, d, t, os⟩ := by
  obtain ⟨oc, od, doc, pm, an, ct, osl, lk⟩ := B.fn
  obtain ⟨ccl, cdd, vs, ccs, file, tf, lc, lvs, lfile⟩ := B.code
  obtain ⟨cl, cld, csl, lcell⟩ := B.cell
  obtain ⟨cd, lcls⟩ := B.cls
  obtain ⟨bmB, FB, exi⟩ := B.exi
  obtain ⟨ar, har, hself⟩ := S.par
  have X1 : K.In h1 := X.keeps kk
  refine ks_codeAny_call_defAt (fd := ksFn "__init__" qual params (b.body f) scope .none .none doc pm an (.ref cda) ct cc) (body := b.body f) (binds := [("self", .ref e), ("place", .int i tk)]) hroom (kk _ _ (X _ _ lk)) rfl (nl.keeps kk) (codeRec_of X1 B.hcd) rfl
    (.of_eq (S.bind _ _ _ _ _ _ _ _)) S.nocell ?_ (fun h0 hns hk => ?_) S.co S.gen S.kind
  · intro y hy
    rcases List.mem_cons.mp hy with rfl | hy
    · exact S.self
    · rcases List.mem_cons.mp hy with rfl | hy
      · exact S.place
      · cases hy
  have hel : e < h1.objs.size := Heap.lt_size he
  have F0 : Fr hp h1.objs.size h0 (fun x => [(("self" : Str), Value.ref e), ("place", .int i tk)].reverse.lookup x) := ⟨hns, fun b o z => hk b o (kk b o z), Nat.le_of_lt (Nat.lt_of_le_of_lt hsz hel)⟩
  have hpe : hp.get? e = none := by
    cases z : hp.get? e with
    | none => rfl
    | some o => exact absurd (Nat.lt_of_lt_of_le (Heap.lt_size z) hsz) (Nat.lt_irrefl _)
  have N0 : News hp h1.objs.size h0 [(e, excObj C t1 none .none)] := fun p hpm => by
    rcases List.mem_cons.mp hpm with rfl | hpm
    · exact ⟨hk _ _ he, Nat.ne_of_lt hel, hpe⟩
    · cases hpm
  have hL : h1.objs.size ≠ e := fun z => Nat.ne_of_lt hel z.symm
  obtain ⟨mb, hbn, hbl⟩ := hb
  have K0 : K.In h0 := X.keeps F0.keep
  obtain ⟨oD, hD1, hD2⟩ : ∃ oD, h0.get? C = some oD ∧ oD.data = .cls cd := by
    unfold clsIn at lcls
    split at lcls
    · rename_i ho
      cases lcls
      exact ⟨_, K0 _ _ ho, rfl⟩
    · cases lcls
  obtain ⟨m, hm, mself, mplace⟩ : ∃ m : Str → Option Value, (fun x : Str => [(("self" : Str), Value.ref e), (("place" : Str), Value.int i tk)].reverse.lookup x) = m ∧ m "self" = some (.ref e) ∧ m "place" = some (.int i tk) := ⟨_, rfl, rfl, rfl⟩
  rw [hm] at F0 hns
  obtain ⟨env, henv⟩ : ∃ env, callEnv (ksFn "__init__" qual params (b.body f) scope .none .none doc pm an (.ref cda) ct cc) h1.objs.size fI = env := ⟨_, rfl⟩
  have esc : env.scope = scope := by rw [← henv]; rfl
  have elo : env.locals = h1.objs.size := by rw [← henv]; rfl
  have egl : env.globals = mainGlobals := by rw [← henv]; rfl
  have ebl : env.builtins = builtinsNs := by rw [← henv]; rfl
  have ecl : env.cells.lookup ("__class__" : Str) = some cc := by rw [← henv]; rfl
  have efu : env.func = some fI := by rw [← henv]; rfl
  have eco : env.code = .ref cda := by rw [← henv]; rfl
  show _root_.PySem.wpAt _ _ _ (execs [.Expr b.call b.p9, b.set f] (callEnv (ksFn "__init__" qual params (b.body f) scope .none .none doc pm an (.ref cda) ct cc) h1.objs.size fI)) _ _ _
  rw [henv]
  obtain ⟨pl, ev⟩ := S.ev env esc
  obtain ⟨st1, st2, st3⟩ := S.st env esc
  obtain ⟨sp1, sp2⟩ := S.sp env esc
  have kd : ∀ {x : Str} {k : NameKind}, scope.names.lookup x = some k → env.kindOf x = some k := fun {x k} z => by
    show env.scope.names.lookup x = some k
    rw [esc]; exact z
  have ekd : env.scope.kind = .function := by rw [esc]; exact S.kind
  refine ks_wpAt_execs_cons (ks_wpAt_Expr_any (ks_wpAt_MethodCall (ks_wpAt_super_base (kd S.sup) (kd S.cl) (by decide) efu (K0 _ _ lk) rfl har eco (K0 _ _ lc) rfl lvs lfile S.top ?_) ev) st1 st2)
  refine ks_loadName_global ekd (kd S.sup) (loadGlobal_builtin (by rw [egl]; exact hg.keeps F0.keep) hsup (by rw [ebl]; exact hbn.keeps F0.keep) ((hbl _ (by decide)).trans rfl) ⟨rfl, ?_⟩)
  refine wpAny_loadName_free ekd (kd S.cl) ecl ⟨_, K0 _ _ lcell, rfl⟩ ?_
  refine wpAny_loadName_local ekd (by rw [hself]; exact kd S.self) (by rw [elo]; exact F0.ns) (by rw [hself]; exact mself) ?_
  refine ks_wpAny_isType_cls hD1 hD2 ⟨rfl, ?_⟩
  have he0 : h0.get? e = some (excObj C t1 none .none) := (N0 _ List.mem_cons_self).1
  refine ks_wpAny_call_super hD1 hD2 he0 rfl (fun c z => by cases z) (looks_mroIn K0 B.sub) (fun h2 eso k2 => ?_)
  obtain ⟨F2, N2, lt2⟩ := ks_newsPush (s := ⟨h0, g, d, t + 2, os⟩) F0 N0 rfl eso k2
  refine kxs_method kxs_ValueError F2 X N2 List.mem_cons_self (InstAt.of_exc0 N2 (List.mem_cons_of_mem _ List.mem_cons_self)) B.any B.sup B.ve (by decide) (fun q h3 F3 N3 lt3 => ?_)
  -- the text
  have K3 : K.In h3 := X.keeps F3.keep
  refine kxs_callWith1 (i := "ValueError.__init__") (x := e) N3 List.mem_cons_self ?_ (by rw [sp1]; rfl) rfl
  rw [sp1]
  have ns3 : h3.Ns env.locals m := by rw [elo]; exact F3.ns
  have gl3 : h3.Ns env.globals mg := by rw [egl]; exact hg.keeps F3.keep
  have bl3 : h3.Ns env.builtins mb := by rw [ebl]; exact hbn.keeps F3.keep
  show wpAny _ _ (spliced [(false, _)]) _ _ _
  refine Calls.spliced_cons (wpAny_BinOp (Calls.Constant_str (wpAny_Call_Name_kw (Calls.Name_function_global ekd (kd S.str) (loadGlobal_builtin gl3 hstr bl3 ((hbl _ (by decide)).trans rfl) ?_) (by decide)))))
  refine PyProof.Rows.callWith_type1 (T := "str") ?_ (by rw [sp2]; rfl) rfl
  rw [sp2]
  refine Calls.spliced_cons (wpAny_Name (wpAny_loadName_local ekd (kd S.place) ns3 mplace (Calls.spliced_nil ?_)) (by decide))
  refine PySem.P.str_of_int (log_small hi) ?_
  refine PyProof.Rows.add_str (fun t' tk' => Calls.spliced_nil ⟨kxs_at N3 List.mem_cons_self, ?_⟩) ?_
  · refine kxs_call F3 X N3 FB exi List.mem_cons_self (.tail ?_ (.tail ?_ (.head (fun _ z => nomatch z)))) (by show 1 ≤ sizeLine; rw [sizeLine_eq]; decide) (fun t4 h4 F4 N4 lt4 => ?_)
    · exact Nat.ne_of_gt (lt3 _ (List.mem_cons_of_mem _ List.mem_cons_self))
    · exact Nat.ne_of_gt (lt2 _ List.mem_cons_self)
    · -- the field
      have K4 : K.In h4 := X.keeps F4.keep
      have ns4 : h4.Ns env.locals m := by rw [elo]; exact F4.ns
      have e4 : h4.get? e = some (excObj C t4 none .none) := (N4 (e, excObj C t4 none .none) (List.mem_cons_of_mem _ (List.mem_cons_of_mem _ (List.mem_cons_of_mem _ List.mem_cons_self)))).1
      obtain ⟨nm, qn, nN, bs, bm, sn, sub, ab, col, dd, k0, k1, k2', k3, k5, hC, hbm⟩ := B.T.cls
      have hcl : clsIn K C = some { name := nm, bases := bs, mro := .ref C :: bm, ns := nN, qualname := qn, hasDict := true, slotNames := sn, subclasses := sub, abstract := ab, collection := col, hasDel := false } := by
        unfold clsIn
        rw [hC] <;> rfl
      show _root_.PySem.wpAt _ _ _ (execs [b.set f] env) _ _ _
      refine ks_wpAt_execs_cons (ks_wpAt_Assign_Attr (wpAt_of_wpAny (wpAny_Name (wpAny_loadName_local ekd (kd S.place) ns4 mplace (wpAny_Name (wpAny_loadName_local ekd (kd S.self) ns4 mself ?_) (by decide))) (by decide))) st3)
      refine set_plain (ox := excObj C t4 none .none) (od := none) K4 ⟨e4, rfl, rfl, trivial⟩ B.T.sa ?_
      refine PySem.HandSPX.exc_osa K4 e4 hcl (show PySem.HandSPX.refsVE (.ref C :: bm) = true from hbm) rfl B.fld (fun h5 tk5 dx k5' dn dne hx hn => ?_)
      refine wpAt_of_wpAny (wpAny_execs_nil (hR h5 tk5 t4 dx (fun c o z => k5' c o (fun y => by rw [y, hpe] at z; cases z) (F4.keep c o z)) ?_ dne hx hn))
      exact Nat.le_trans (Nat.le_of_lt (Nat.lt_of_le_of_lt hsz (Heap.lt_size e4))) dn
  · have hmsg := S.msg
    have h1 := PyProof.Rows.len_str_of_int i
    rw [sizeLine_eq]
    show b.msg.length + (Str.ofString (toString i)).length ≤ _
    omega
end
end MI
/-! # raise, try -/
namespace MI
open PySem PySem.Spec PyProof.Rows L2

section
variable {X : Cx} {e : Expr} {te : TE} {x f : Str} {p pos : Pos} {C fI cda cc : Addr} {qual : Str} {params : Arguments} {b : BbP} {scope : Scope}
/-- C(e), e a place -/
theorem pmk_bb (B : BbF X.prog X.K C fI cda cc qual params (b.body f) scope f) (S : BbS X.prog params scope b f qual) (hsup : X.mg "super" = none) (hstr : X.mg "str" = none) (hr : Room 3 X.A) (hg : Gl X x) (hm : X.mg x = some (.ref C)) (ha : PE X e te)
    (hdb : (x == ("__debug__" : Str)) = false := by decide) (he : starEach [e] X.env = (false, eval e X.env) :: starEach [] X.env := by rfl) :
    PMk X (.Call (.Name x p) [e] [] pos) (fun σ H Q => tCons te tNil σ H fun vs H1 => ∃ i : Int, vs = [.int i] ∧ i.natAbs ≤ 1000000 ∧ ∀ dx, H1 dx = none → Q (.ref C) (some dx) (upd H1 dx (.xd [(f, .int i)]))) := by
  intro pins s σ H Q I h
  obtain ⟨nm, q, nN, bs, bm, sn, sub, ab, col, dd, k0, k1, k2, k3, k5, hC, hbm⟩ := B.T.cls
  refine wpAny_Call_Name_kw (ld_glob I hg hm ?_ hdb)
  refine PySem.W.callWith_K (h₀ := X.base) I.ok.mod.kin B.T.kC (thn ((pa_cons ha pa_nil he).run pos pins s σ H (fun vs H1 => ∃ i : Int, vs = [.int i] ∧ i.natAbs ≤ 1000000 ∧ ∀ dx, H1 dx = none → Q (.ref C) (some dx) (upd H1 dx (.xd [(f, .int i)]))) I h) fun us s1 ⟨vs, H1, I1, r1, i, ev, hi, q1⟩ => ⟨I1.kIn, ?_⟩) he (by rfl)
  · subst ev
    obtain ⟨u, rfl, ru⟩ := vals1 r1
    obtain ⟨tk, rfl⟩ := ru
    show wpAny _ _ (call (.ref C) [.int i tk]) _ _ _
    obtain ⟨hp, g, dr, tt, os⟩ := s1
    have hget : ((hp.push (PySem.W.kdv_tup [.int i tk])).push (PySem.HandSPX.excO C hp.objs.size)).get? (hp.objs.size + 1) = some (PySem.HandSPX.excO C hp.objs.size) := by heap_get
    have kk : ∀ c o, hp.get? c = some o → ((hp.push (PySem.W.kdv_tup [.int i tk])).push (PySem.HandSPX.excO C hp.objs.size)).get? c = some o := fun c o z => Heap.get?_push_of_some _ (Heap.get?_push_of_some _ z)
    refine wpAny_call (PySem.HandSPX.call_own F.excBase_ValueError (fun Y => PySem.HandSPX.refsVE_contains Y bm hbm) (I1.kIn _ _ hC) (PySem.W.looks_findIn I1.kIn B.iC) (fun self => PySem.W.bind_fn I1.kIn self B.tI) (by show 1 ≤ sizeLine; rw [sizeLine_eq]; decide) ?_)
    refine bb_run B S I1.kIn (I1.mod.glob.keeps I1.bk) ?_ I1.nolimit hsup hstr (Room.depth (hr.make C [.int i tk] [])) hi kk (Nat.le_succ _) hget (fun h2 tk' t' dx k2' dn dne hx hn => ?_)
    · obtain ⟨mb, z1, z2⟩ := I1.mod.blt
      exact ⟨mb, z1.keeps I1.bk, z2⟩
    · refine ⟨rfl, ?_⟩
      obtain ⟨G, g1, g2⟩ := restrict h2 fun c => decide (c ≠ hp.objs.size + 1)
      have gk : ∀ c, c ≠ hp.objs.size + 1 → G.get? c = h2.get? c := fun c hc => g1 c (decide_eq_true hc)
      have ge : G.get? (hp.objs.size + 1) = none := g2 _ (by simp)
      have lt : ∀ c o, hp.get? c = some o → c ≠ hp.objs.size + 1 := fun c o z => Nat.ne_of_lt (Nat.lt_succ_of_lt (Heap.lt_size z))
      have kG : ∀ c o, hp.get? c = some o → G.get? c = some o := fun c o z => (gk c (lt c o z)).trans (k2' c o z)
      have J := I1.laid (t' := tk') (a := dx) (o := .xd [(f, .int i)]) (h' := G) kG dn ?_
      · refine ⟨hp.objs.size + 1, _, _, ⟨G, g, dr, tk', os⟩, _, .ref C, some dx, rfl, J, fun c o z => ?_, ge, hx, ⟨rfl, rfl⟩, rfl, rfl, ?_, rfl, I1.bare, raises_own B.T.exC B.T.tyC, q1 dx (I1.hok.fresh dn)⟩
        · by_cases hc : c = hp.objs.size + 1
          · rw [hc, ge] at z; cases z
          · exact (gk c hc).symm.trans z
        · rw [upd_ne (Ne.symm dne)]
          exact I1.hok.fresh (Nat.le_succ _)
      · refine ⟨_, hn.at fun o z => (gk dx dne).trans z, fun y => ?_⟩
        show RelO (List.lookup y [(f, V.int i)]) (if y = f then some (.int i tk) else none)
        rw [lookup_put]
        by_cases hy : y = f
        · rw [if_pos hy, if_pos hy]; exact ⟨tk, rfl⟩
        · rw [if_neg hy, if_neg hy]; exact True.intro
end

/-! ### what the module says of such a class -/
/-- x stands for an own exception class that keeps one int, under f -/
def XcM (P : Program) (K : PySem.W.Frag) (mg : Str → Option Value) (x f : Str) : Prop :=
  ∃ fI cda cc qual params b scope, BbF P K (He.ga K x) fI cda cc qual params (BbP.body b f) scope f ∧ BbS P params scope b f qual ∧ mg x = some (.ref (He.ga K x)) ∧ mg "super" = none ∧ mg "str" = none
def mRaise (x f : Str) (m : M) : S → Res Out := fun s => (mLeak m s).bind fun d s1 => match d with
  | .int i => if i.natAbs ≤ 1000000 then .exc x (.tup [.str f, .int i]) s1 else .stuck
  | _ => .stuck
section
variable {X : Cx} {W : WX} {e : Expr} {me : M} {x f : Str} {p pos pos' : Pos}
theorem ms_raise (B : XcM X.prog X.K X.mg x f) (hr : Room 3 X.A) (hc : X.calm = true) (tk : Takes X W) (hg : Gl X x) (ha : ME X W e me)
    (hdb : (x == ("__debug__" : Str)) = false := by decide) (he : starEach [e] X.env = (false, eval e X.env) :: starEach [] X.env := by rfl) :
    MS X W (.Raise (some (.Call (.Name x p) [e] [] pos')) none pos) (mRaise x f me) := by
  obtain ⟨fI, cda, cc, qual, params, b, scope, BF, BS, hm, hsup, hstr⟩ := B
  have z := ps_raise (pos := pos) hc tk (pmk_bb (p := p) (pos := pos') BF BS hsup hstr hr hg hm ha hdb he)
  refine ps_imp z fun D σ H h => ?_
  obtain ⟨g, s, ok, h⟩ := h
  unfold mRaise at h
  refine tM_leak ok (k := fun d g1 s1 H1 => PostS X.K W g1 s1 H1 D (match d with
  | .int i => if i.natAbs ≤ 1000000 then .exc x (.tup [.str f, .int i]) s1 else .stuck
  | _ => .stuck)) (PostS.bind h) fun d g1 s1 H1 v t1 k1 o1 rv h1 => ?_
  cases d <;> first | exact h1.elim | skip
  rename_i i
  cases rv
  simp only at h1
  split at h1
  · rename_i hi
    refine ⟨i, rfl, hi, fun dx hx => ?_⟩
    exact h1 _ _ _ g1 _ (Step.grow o1 hx) (o1.grow hx) ⟨rfl, .inr ⟨dx, f, .int i, .int i, rfl, upd_same, rfl, .int i⟩⟩
  · exact h1.elim
end

/-! ### try -/
/-- try: body / except c as n: y = n.f   (tb: which class is one of c) -/
def mTryF (tb : Str → Option Bool) (i j : Nat) (f : Str) (b : S → Res Out) : S → Res Out := fun s => match b s with
  | .exc c p s1 => (match tb c with
    | some true => (match p with
      | .tup [.str f', q] => if f' = f ∧ i ≠ j ∧ i < s1.env.length then (match assign j (.d q) { s1 with env := s1.env.set i .none } with
        | some s2 => .ok .nx s2
        | none => .stuck) else .stuck
      | _ => .stuck)
    | some false => .exc c p s1
    | none => .stuck)
  | r => r
section
variable {K : PySem.W.Frag} {σ : L2.St} {g : G} {s : S} {H : Hp}
theorem Ok.setNone {i : Nat} {x : Option V} (ok : Ok K g s σ H) : Ok K g { s with env := s.env.set i .none } (σ.set i x) H := by
  have cs : ∀ l w, cellOf { s with env := s.env.set i .none } l = some w → cellOf s l = some w := by
    intro l w h
    cases l with
    | gl n => exact h
    | sl k =>
      by_cases hi : i < s.env.length
      · rcases cellOf_set hi h with ⟨_, z⟩ | ⟨_, z⟩
        · cases z
        · exact z
      · have e : s.env.set i Slot.none = s.env := List.set_eq_of_length_le (by omega)
        rw [e] at h; exact h
  refine ⟨ok.sub, fun l w e => ok.cell l w (cs l w e), fun l l' w w' e e' z => ok.inj l l' w w' (cs l w e) (cs l' w' e') z, fun k y e => ?_, by rw [List.length_set, List.length_set]; exact ok.len, ok.ng, fun a p => ?_⟩
  · by_cases z : k = i
    · subst z
      have e' : (s.env.set k Slot.none)[k]? = some y := e
      by_cases hk : k < s.env.length
      · rw [List.getElem?_set_self hk] at e'
        cases e'
        trivial
      · rw [List.getElem?_eq_none (by rw [List.length_set]; omega)] at e'
        cases e'
    · have e' : (s.env.set i Slot.none)[k]? = some y := e
      rw [List.getElem?_set_ne (Ne.symm z)] at e'
      have q := ok.env k y e'
      cases y with
      | none => trivial
      | val d =>
        obtain ⟨v, h1, h2⟩ := q
        exact ⟨v, (List.getElem?_set_ne (Ne.symm z)).trans h1, h2⟩
      | own o => exact (List.getElem?_set_ne (Ne.symm z)).trans q
  · obtain ⟨h1, h2, h3⟩ := ok.prot a p
    exact ⟨h1, h2, fun ⟨l, w, e, z⟩ => h3 ⟨l, w, cs l w e, z⟩⟩
end
section
variable {X : Cx} {W : WX} {body : List Stmt} {mb : S → Res Out} {x n y f : Str} {i j : Nat} {np py pn pa apos pos pos' : Pos} {tb : Str → Option Bool}
theorem ms_tryF (hm : X.mg x = some (.ref (He.ga X.K x))) (hxf : XfC X.K (He.ga X.K x)) (hno : PySem.W.findIn X.K (.ref (He.ga X.K x)) f = some none)
    (htb : ∀ c b, tb c = some b → PySem.W.exmOne X.K (.ref (He.ga X.K c)) (.ref (He.ga X.K x)) = some b ∧ (b = true → c = x)) (hN : X.N.Nodup) (tk : Takes X W) (hg : Gl X x)
    (hb : ∀ (W : WX) (pn : List (Addr × Obj)) (xe : Value → Shared → Prop), Takes (X.tr pn xe) W → PassesOwn (model X.prog X.w) X.A X.env xe → MSs (X.tr pn xe) W body mb)
    (hs : X.stack = X.env :: X.outer := by rfl) (hf : X.env.frame = some X.env.locals := by rfl) (hi : X.N[i]? = some n := by rfl) (hj : X.N[j]? = some y := by rfl) (hln : X.env.kindOf n = some .local := by rfl) (hly : X.env.scope.names.lookup y = some .local := by rfl)
    (hdb : (x == ("__debug__" : Str)) = false := by decide) (hd1 : (n == ("__debug__" : Str)) = false := by decide) (hd2 : (n == ("__classdict__" : Str)) = false := by decide)
    (hsw : swapsWith (.Attribute (.Name n pn) f pa) (some (.Name y py)) apos.line X.env = pure false := by rfl) (hba : attributeBase (.Name n pn) f X.env (eval (.Name n pn) X.env) = eval (.Name n pn) X.env := by rfl) :
    MS X W (.Try body [.ExceptHandler (some (.Name x np)) (some n) [.Assign [.Name y py] (.Attribute (.Name n pn) f pa) apos] pos'] [] [] pos) (mTryF tb i j f mb) := by
  have z := ps_try_as (X := X) (x := x) (n := n) (c := .ref (He.ga X.K x)) (i := i) (np := np) (pos := pos) (pos' := pos') (Wout := W) (tb := fun W => tMS X.K W mb)
    (ts := fun a cls d => fun D σ H => tXf a cls d (He.ga X.K x) f (tVar i) σ H fun v H1 => D.nx (σ.set j (some v)) H1) hs hf hN hi hln ⟨hg, hdb, .inl hm⟩ tk hb
    (fun a oe cls d pn' hz hfs => pss_one (ps_set (X := X.suite a ((a, oe) :: pn')) (i := j) hN hj (.inl hly) (pe_xf (X := X) hxf hno hz hfs (pe_var (X := X.suite a ((a, oe) :: pn')) (i := i) hi (.inl hln) hd1 hd2) hba) hsw (.inr hly)))
  refine ps_imp z fun D σ H h => ?_
  obtain ⟨g, s, ok, h⟩ := h
  refine ⟨g, s, ok, ?_⟩
  unfold mTryF at h
  cases e : mb s with
  | ok a s' => simp only [e] at h; cases a <;> exact h
  | stuck => simp only [e] at h; exact h.elim
  | exc c p s1 =>
    simp only [e] at h
    intro σ' cls d g' H' t o' rep
    obtain ⟨rfl, rep⟩ := rep
    cases eb : tb c with
    | none => simp only [eb] at h; exact h.elim
    | some b =>
      obtain ⟨hx, hc⟩ := htb c b eb
      refine ⟨b, hx, fun hb1 a ha => ?_, fun hb0 => ?_⟩
      · subst hb1
        have ec := hc rfl
        subst ec
        simp only [eb] at h
        split at h
        · rename_i fl q
          split at h
          · rename_i hfij
            obtain ⟨rfl, hij, hlt⟩ := hfij
            split at h
            · rename_i s2 es
              rcases rep with ⟨_, rep⟩ | ⟨dx, f2, v, q2, ed, eH, rep, rq⟩
              · cases rep
              · cases rep
                refine ⟨.ref a, ?_, rfl, rfl, dx, _, v, ed, eH, ?_, ?_⟩
                · exact List.getElem?_set_self (by rw [← o'.len]; exact hlt)
                · simp [List.lookup]
                · show D.nx (((σ'.set i (some (.ref a))).set j (some v)).set i none) H'
                  have el : ((σ'.set i (some (.ref a))).set j (some v)).set i none = (σ'.set i none).set j (some v) := by
                    rw [List.set_comm _ _ (Ne.symm hij), List.set_set, List.set_comm _ _ hij]
                  rw [el]
                  obtain ⟨g2, t2, o2⟩ := assign_ok (o'.setNone (i := i) (x := none)) (show RepRV X.K g' _ H' v (.d q) from rq) es
                  exact h _ _ _ (t.trans t2) o2
            · exact h.elim
          · exact h.elim
        · exact h.elim
      · subst hb0
        simp only [eb] at h
        exact h _ _ _ _ _ t o' ⟨rfl, rep⟩
end
/-- .. and one that a clause names -/
structure XcT (P : Program) (K : PySem.W.Frag) (mg : Str → Option Value) (x f : Str) : Prop where
  xm : XcM P K mg x f
  xf : XfC K (He.ga K x)
  ex : PySem.W.exmOne K (.ref (He.ga K x)) (.ref (He.ga K x)) = some true
def tbOne (x : Str) : Str → Option Bool := fun c => if c = x then some true else none
def mTryX (x : Str) (i j : Nat) (f : Str) (b : S → Res Out) : S → Res Out := mTryF (tbOne x) i j f b
section
variable {X : Cx} {W : WX} {body : List Stmt} {mb : S → Res Out} {x n y f : Str} {i j : Nat} {np py pn pa apos pos pos' : Pos}
theorem ms_tryX (B : XcT X.prog X.K X.mg x f) (hN : X.N.Nodup) (tk : Takes X W) (hg : Gl X x)
    (hb : ∀ (W : WX) (pn : List (Addr × Obj)) (xe : Value → Shared → Prop), Takes (X.tr pn xe) W → PassesOwn (model X.prog X.w) X.A X.env xe → MSs (X.tr pn xe) W body mb)
    (hs : X.stack = X.env :: X.outer := by rfl) (hf : X.env.frame = some X.env.locals := by rfl) (hi : X.N[i]? = some n := by rfl) (hj : X.N[j]? = some y := by rfl) (hln : X.env.kindOf n = some .local := by rfl) (hly : X.env.scope.names.lookup y = some .local := by rfl)
    (hdb : (x == ("__debug__" : Str)) = false := by decide) (hd1 : (n == ("__debug__" : Str)) = false := by decide) (hd2 : (n == ("__classdict__" : Str)) = false := by decide)
    (hsw : swapsWith (.Attribute (.Name n pn) f pa) (some (.Name y py)) apos.line X.env = pure false := by rfl) (hba : attributeBase (.Name n pn) f X.env (eval (.Name n pn) X.env) = eval (.Name n pn) X.env := by rfl) :
    MS X W (.Try body [.ExceptHandler (some (.Name x np)) (some n) [.Assign [.Name y py] (.Attribute (.Name n pn) f pa) apos] pos'] [] [] pos) (mTryX x i j f mb) := by
  obtain ⟨fI, cda, cc, qual, params, b, scope, BF, BS, hm, hsup, hstr⟩ := B.xm
  refine ms_tryF hm B.xf BF.fld (fun c b h => ?_) hN tk hg hb hs hf hi hj hln hly hdb hd1 hd2 hsw hba
  unfold tbOne at h
  split at h
  · rename_i e
    cases h
    subst e
    exact ⟨B.ex, fun _ => rfl⟩
  · cases h
end
end MI
/-! # The head's facts: defs, names, own exception classes -/
namespace MI
open PySem PySem.Spec PyProof.Rows L2 PySem.W

/-- an own exception class with a written __init__: its name, the field, the def -/
structure InD where
  x : Str
  f : Str
  qual : Str
  params : Arguments
  b : BbP
  scope : Scope
abbrev InV : Type := Option (Str × Str × Arguments × FuncBody × Scope × Addr × List Str × Addr)
def InD.val (d : InD) : InV := some (("__init__" : Str), d.qual, d.params, .stmts (d.b.body d.f), d.scope, mainGlobals, [("__class__" : Str)], builtinsNs)
/-- the class object itself -/
def oexB (K : Frag) (C : Addr) : Bool := match K.lookup C with
  | some ⟨.type "type", _, .cls cd, sl⟩ => (match cd.mro, sl.toList with
    | .ref C' :: bm, [_, _, _, _, some (.builtin n), _] => decide (C' = C) && (decide (n = "ValueError.__new__") && (!cd.hasDel && (cd.hasDict && HandSPX.refsVE bm)))
    | _, _ => false)
  | _ => false
theorem oexB_ok {K : Frag} {C : Addr} (h : oexB K C = true) : ∃ nm q N bs bm sn sub ab col dd k0 k1 k2 k3 k5, K.lookup C = some (excClassObj nm q C N bs bm true sn sub ab col dd k0 k1 k2 k3 k5 "ValueError.__new__") ∧ HandSPX.refsVE bm = true := by
  unfold oexB at h
  split at h
  · rename_i dd cd sl ho
    split at h
    · rename_i C' bm k0 k1 k2 k3 n k5 e1 e2
      obtain ⟨a1, h⟩ := Bool.and_eq_true_iff.mp h
      obtain ⟨a2, h⟩ := Bool.and_eq_true_iff.mp h
      obtain ⟨a3, h⟩ := Bool.and_eq_true_iff.mp h
      obtain ⟨a4, a5⟩ := Bool.and_eq_true_iff.mp h
      have b1 := of_decide_eq_true a1
      have b2 := of_decide_eq_true a2
      subst b1 b2
      obtain ⟨nm, bs, mro, ns, qn, hd, sn, sub, ab, col, dl⟩ := cd
      simp only at e1 a3 a4
      subst e1 a4
      have b3 : dl = false := by simpa using a3
      subst b3
      have e3 : sl = #[k0, k1, k2, k3, some (.builtin "ValueError.__new__"), k5] := by
        obtain ⟨l⟩ := sl
        exact congrArg Array.mk e2
      subst e3
      exact ⟨nm, qn, ns, bs, bm, sn, sub, ab, col, dd, k0, k1, k2, k3, k5, ho, a5⟩
    · cases h
  · cases h
def inFn (K : Frag) (d : InD) : Addr := He.ma K (He.ga K d.x) "__init__"
def InD.obs (K : Frag) (d : InD) : InV := match K.lookup (inFn K d) with
  | some ⟨_, _, .func fd, _⟩ => some (fd.name, fd.qualname, fd.params, fd.body, fd.scope, fd.globals, fd.closure.map (·.1), fd.builtins)
  | _ => none
/-- the function object's other parts -/
def inFnB (K : Frag) (C fI : Addr) (qual file : Str) : Bool := match K.lookup fI with
  | some ⟨_, _, .func fd, _⟩ => (match fd.defaults, fd.kwdefaults, fd.closure, fd.code with
    | .none, .none, [(_, cc)], .ref cda => codeIn K (.ref cda) qual && ((match K.lookup cda with
        | some ⟨_, _, .fields vs, _⟩ => (match (vs[2]? : Option Value) with
          | some (Value.str fl _) => (file == fl)
          | _ => false)
        | _ => false) && (match K.lookup cc with
        | some ⟨_, _, .cell (some (.ref D)), _⟩ => decide (D = C)
        | _ => false))
    | _, _, _, _ => false)
  | _ => false
def veB : List Value := [.type "ValueError", .type "Exception", .type "BaseException", .type "object"]
def InD.ok (K : Frag) (file : Str) (d : InD) : Bool :=
  let C := He.ga K d.x
  oexB K C && (He.eqO (findIn K (.ref C) "__setattr__") (some (some (.builtin "object.__setattr__"))) && (decide (subIn K (.ref C) (.type "BaseException") = some true) && (decide (typeIn K (.ref C) = some (.type "type")) && (keepIn K (.ref C) &&
  (He.eqO (findIn K (.ref C) "__init__") (some (some (.ref (inFn K d)))) && (decide (typeIn K (.ref (inFn K d)) = some (.type "function")) && (inFnB K C (inFn K d) d.qual file && ((clsIn K C).isSome && (decide (mroIn K C (.ref C) = some true) &&
  (decide (ks_superIn K C C "__init__" = some (some (.builtin "ValueError.__init__"))) && (decide (subIn K (.ref C) (.type "ValueError") = some true) && (He.eqO (nsIn K cStatics "thirdparty.any") (some none) && (excInitIn K C veB "ValueError.__new__" &&
  (He.eqO (findIn K (.ref C) d.f) (some none) && (xfB K C && (decide (exmOne K (.ref C) (.ref C) = some true) && (He.eqO (nsIn K mainGlobals d.x) (some (some (.ref C))) && (He.eqO (nsIn K mainGlobals "super") (some none) && He.eqO (nsIn K mainGlobals "str") (some none)))))))))))))))))))
theorem InD.xct {P : Program} {K : Frag} {h : Heap} {mg : Str → Option Value} {d : InD} (X : K.In h) (G : h.Ns mainGlobals mg) (ok : d.ok K P.main.file = true) (e : d.obs K = d.val) (S : BbS P d.params d.scope d.b d.f d.qual) : XcT P K mg d.x d.f := by
  unfold InD.ok at ok
  simp only [Bool.and_eq_true, decide_eq_true_eq] at ok
  obtain ⟨c1, c2, c3, c4, c5, c6, c7, c8, c9, c10, c11, c12, c13, c14, c15, c16, c17, c18, c19, c20⟩ := ok
  have c2 := He.eqO_ok c2
  have c6 := He.eqO_ok c6
  have c13 := He.eqO_ok c13
  have c15 := He.eqO_ok c15
  have c18 := He.eqO_ok c18
  have c19 := He.eqO_ok c19
  have c20 := He.eqO_ok c20
  unfold InD.obs at e
  unfold inFnB at c8
  cases q : K.lookup (inFn K d) with
  | none => rw [q] at c8; cases c8
  | some o =>
    obtain ⟨oc, od, dt, osl⟩ := o
    rw [q] at c8 e
    cases dt with
    | func fd =>
      obtain ⟨n1, n2, n3, n4, n5, n6, n7, n8, n9, n10, n11, n12, n13, n14, n15⟩ := fd
      simp only at c8 e
      unfold InD.val at e
      simp only [Option.some.injEq, Prod.mk.injEq] at e
      obtain ⟨h1, h2, h3, h4, h5, h6, h7, h8⟩ := e
      subst h1 h2 h3 h4 h5 h6 h8
      split at c8
      · rename_i nm cc cda
        have hn : nm = "__class__" := by
          have z := List.head_eq_of_cons_eq h7
          exact z
        subst hn
        obtain ⟨d1, c8⟩ := Bool.and_eq_true_iff.mp c8
        obtain ⟨d2, d3⟩ := Bool.and_eq_true_iff.mp c8
        have code : ∃ ccl cdd vs ccs file tf, K.lookup cda = some ⟨ccl, cdd, .fields vs, ccs⟩ ∧ vs[2]? = some (.str file tf) ∧ ((P.main.file : Str) == file) = true := by
          split at d2
          · rename_i ho
            split at d2
            · rename_i hv
              exact ⟨_, _, _, _, _, _, ho, hv, d2⟩
            · cases d2
          · cases d2
        have cell : ∃ cl cld csl, K.lookup cc = some ⟨cl, cld, .cell (some (.ref (He.ga K d.x))), csl⟩ := by
          split at d3
          · rename_i D' _ ho
            have z := of_decide_eq_true d3
            subst z
            exact ⟨_, _, _, ho⟩
          · cases d3
        have BF : BbF P K (He.ga K d.x) (inFn K d) cda cc d.qual d.params (d.b.body d.f) d.scope d.f :=
          ⟨⟨oexB_ok c1, c2, c3, c4, c5⟩, c6, c7, ⟨_, _, _, _, _, _, _, q⟩, d1, code, cell, Option.isSome_iff_exists.mp c9, c10, c11, c12, c13, ⟨veB, F.excBase_ValueError, c14⟩, c15⟩
        exact ⟨⟨_, _, _, _, _, _, _, BF, S, mg_of X G c18, mg_none_of X G c19, mg_none_of X G c20⟩, xfB_ok c16, c17⟩
      · cases c8
    | _ => cases c8
/-! ### the Hook -/
abbrev AlX : Type := Bool × List He.FnW × List InV
structure HdX where
  n : Nat
  file : Str
  fa : List He.Fa
  fn : List He.DefD
  ini : List InD
  tup : List (Str × List He.Dv)
def HdX.ok (d : HdX) (K : Frag) : Bool := d.fa.all (fun f => f.ok K) && (d.fn.all (fun f => f.ok K) && (d.ini.all (fun f => f.ok K d.file) && d.tup.all fun p => He.eqO (nsIn K mainGlobals p.1) (some (some (.ref (He.ga K p.1)))) && He.tupB K p.1 p.2))
def HdX.obs (d : HdX) (K : Frag) : AlX := (d.ok K, d.fn.map (fun f => He.fnW K f.at_), d.ini.map fun f => f.obs K)
def HdX.val (d : HdX) : AlX := (true, d.fn.map He.DefD.val, d.ini.map InD.val)
def HdX.says (d : HdX) (K : Frag) : Prop := d.obs K = d.val
def asX (g : Addr → Option Obj) : Nat → List Addr
  | 0 => [mainGlobals, cStatics]
  | n + 1 => He.growD g (asX g n)
def HdX.obsG (d : HdX) (g : Addr → Option Obj) : AlX := d.obs (He.frG g (asX g d.n))
def HdX.hook (d : HdX) : Hook where
  α := AlX
  obs := fun s => d.obsG s.heap.get?
  val := fun _ => d.val
  says := fun _ h => ∃ K : Frag, K.In h ∧ d.says K
  of := fun _ _ e => ⟨_, He.frG_in, e⟩
  keeps := fun _ _ _ ⟨K, hK, c⟩ k => ⟨K, Frag.In.keeps hK k, c⟩
theorem HdX.obs_eq {d : HdX} {g : Addr → Option Obj} {s : Shared} (h : ∀ a, g a = s.heap.get? a) : d.obsG g = d.hook.obs s := by
  have e : g = s.heap.get? := funext h
  rw [e] <;> rfl
def HdX.ob (d : HdX) (s : SharedT) : AlX := d.obsG (HandSHeadRun.getT s)
theorem HdX.ob_eq (d : HdX) (s : SharedT) : d.ob s = d.hook.obs s.abs := HdX.obs_eq (HandSHeadRun.getT_eq s)
section
variable {d : HdX} {P : Program} {K : Frag} {h : Heap} {mg : Str → Option Value}
theorem HdX.says.ok (c : d.says K) : d.ok K = true := congrArg (fun z : AlX => z.1) c
theorem HdX.says.fact (c : d.says K) (i : Nat) {f : He.Fa} (e : d.fa[i]? = some f := by rfl) : f.ok K = true :=
  List.all_eq_true.mp (Bool.and_eq_true_iff.mp c.ok).1 f (List.mem_of_getElem? e)
theorem HdX.says.def_ (c : d.says K) (X : K.In h) (G : h.Ns mainGlobals mg) (i j : Nat) {x : Str} {params : Arguments} {body : List Stmt} {scope : Scope} (e : d.fn[i]? = some ⟨(x, none), x, x, params, body, scope, [], []⟩ := by rfl) (e2 : d.fa[j]? = some (.glo x) := by rfl) :
    DefM K mg x params body scope := by
  have c1 := (Bool.and_eq_true_iff.mp (Bool.and_eq_true_iff.mp c.ok).2).1
  have q : d.fn.map (fun f => He.fnW K f.at_) = d.fn.map He.DefD.val := congrArg (fun z : AlX => z.2.1) c
  have q2 : (d.fn.map fun f => He.fnW K f.at_)[i]? = (d.fn.map He.DefD.val)[i]? := by rw [q]
  rw [List.getElem?_map, List.getElem?_map, e] at q2
  obtain ⟨fd, F⟩ := He.DefD.funD (Option.some.inj q2) (List.all_eq_true.mp c1 _ (List.mem_of_getElem? e))
  exact ⟨_, fd, F, He.glo_ok X G (c.fact j e2)⟩
theorem HdX.says.free (c : d.says K) (X : K.In h) (G : h.Ns mainGlobals mg) (j : Nat) {x : Str} (e : d.fa[j]? = some (.free x) := by rfl) : mg x = none := He.free_ok X G (c.fact j e)
theorem HdX.says.gint (c : d.says K) (X : K.In h) (G : h.Ns mainGlobals mg) (j : Nat) {x : Str} {i : Int} (e : d.fa[j]? = some (.int x i) := by rfl) : GInt mg x i := He.int_ok X G (c.fact j e)
theorem HdX.says.gstr (c : d.says K) (X : K.In h) (G : h.Ns mainGlobals mg) (j : Nat) {x z : Str} (e : d.fa[j]? = some (.str x z) := by rfl) : GStr mg x z := He.str_ok X G (c.fact j e)
theorem HdX.says.exc (c : d.says K) (hf : d.file = P.main.file) (X : K.In h) (G : h.Ns mainGlobals mg) (i : Nat) {x f qual : Str} {params : Arguments} {b : BbP} {scope : Scope} (S : BbS P params scope b f qual) (e : d.ini[i]? = some ⟨x, f, qual, params, b, scope⟩ := by rfl) : XcT P K mg x f := by
  have c1 := (Bool.and_eq_true_iff.mp (Bool.and_eq_true_iff.mp (Bool.and_eq_true_iff.mp c.ok).2).2).1
  have q : d.ini.map (fun f => f.obs K) = d.ini.map InD.val := congrArg (fun z : AlX => z.2.2) c
  have q2 : (d.ini.map fun f => f.obs K)[i]? = (d.ini.map InD.val)[i]? := by rw [q]
  rw [List.getElem?_map, List.getElem?_map, e] at q2
  have o := List.all_eq_true.mp c1 _ (List.mem_of_getElem? e)
  rw [hf] at o
  exact InD.xct (d := ⟨x, f, qual, params, b, scope⟩) X G o (Option.some.inj q2) S
theorem HdX.says.gtup (c : d.says K) (X : K.In h) (G : h.Ns mainGlobals mg) (i : Nat) {x : Str} {ds : List He.Dv} (e : d.tup[i]? = some (x, ds) := by rfl) : GTup K mg x (ds.map (He.Dv.v K)) := by
  have c1 := (Bool.and_eq_true_iff.mp (Bool.and_eq_true_iff.mp (Bool.and_eq_true_iff.mp c.ok).2).2).2
  have o := List.all_eq_true.mp c1 _ (List.mem_of_getElem? e)
  obtain ⟨o1, o2⟩ := Bool.and_eq_true_iff.mp o
  exact ⟨_, mg_of X G (He.eqO_ok o1), fun H => He.tupB_ok o2 H⟩
end
/-- the places of such an __init__, off its text -/
def bbOf : List Stmt → BbP
  | [.Expr (.Call (.Attribute (.Call (.Name _ p0) _ _ p1) _ p2) [.BinOp (.Constant (.str msg) j p3) _ (.Call (.Name _ p4) [.Name _ p5] _ p6) p7] _ p8) p9, .Assign [.Attribute (.Name _ q0) _ q1] (.Name _ q2) q3] =>
    ⟨p0, p1, p2, p3, p4, p5, p6, p7, p8, p9, q0, q1, q2, q3, msg, j⟩
  | _ => ⟨⟨0, 0, 0, 0⟩, ⟨0, 0, 0, 0⟩, ⟨0, 0, 0, 0⟩, ⟨0, 0, 0, 0⟩, ⟨0, 0, 0, 0⟩, ⟨0, 0, 0, 0⟩, ⟨0, 0, 0, 0⟩, ⟨0, 0, 0, 0⟩, ⟨0, 0, 0, 0⟩, ⟨0, 0, 0, 0⟩, ⟨0, 0, 0, 0⟩, ⟨0, 0, 0, 0⟩, ⟨0, 0, 0, 0⟩, ⟨0, 0, 0, 0⟩, "", 0⟩
/-! ### the end: the law at a script -/
def CXw (P : Program) : CXT := fun outer H s E e s' => ∃ w : World, L2.CX P w outer H s E e s'
theorem law_out {P : Program} (H : Hp) (s : Shared) (e : Value) (s' : Shared) : CXw P [] H s (fun _ _ _ => False) e s' → False := fun ⟨_, _, _, _, _, _, _, _, _, _, _, _, _, z⟩ => z
theorem fnOk_cx {P : Program} {w : World} {K : Frag} {mg : Str → Option Value} {base : Heap} {k : Nat} {f : Addr} {fd : FuncData} {ps : List Str} {sp : Sp} (F : FnOk P w K mg base (L2.CX P w) k f fd ps sp) : FnOk P w K mg base (CXw P) k f fd ps sp :=
  ⟨F.len, fun A outer s H args us vs Q E hr e0 hb r q => codeAny_mono (F.run A outer s H args us vs Q E hr e0 hb r q) fun r s' z => by
    cases r with
    | error e => exact ⟨w, z⟩
    | ok fl => cases fl <;> exact z⟩
theorem law_end {P : Program} {w : World} {K : Frag} {mg : Str → Option Value} {fa : Addr} {h : Heap} {k : Nat} {fm : Fm} (KX : K.In h) (hmg : mg ("law" : Str) = some (.ref fa)) (F : ∀ base : Heap, FnM P w K mg base k "law" ["script"] fm)
    (plain : ∀ ns : List Int, ns.length ≤ 63 → ∃ gl, fm [.scr (ns.map D.int)] [] = .ok (.bl true) gl) :
    ∃ (K : Frag) (fd : FuncData) (sp : Sp), K.In h ∧ (∀ (s : Shared) (u : Value), BindsTo s fd ⟨[u], []⟩ [(("script" : Str), u)]) ∧
        (∀ (H : Hp) (a : Addr) (ns : List Int), ns.length ≤ 63 → Only H → SqL K H a (ns.map V.int) → sp [.ref a] H (fun v _ => v = .bl true) fun _ _ _ => False) ∧
        ∀ base : Heap, K.In base → base.Ns mainGlobals mg → FnOk P w K mg base (CXw P) k fa fd ["script"] sp := by
  obtain ⟨f0, fd, _, hm0, _, _, ⟨oc, od, osl, lk⟩, hb⟩ := (F h).ex
  have ef : f0 = fa := by rw [hm0] at hmg; cases hmg; rfl
  subst ef
  refine ⟨K, fd, spM K fm, KX, fun s u => hb s [u] rfl, fun H a ns hl _ hS => ?_, fun base _ _ => ?_⟩
  · have rl : ∀ ns : List Int, RepL K ⟨H, fun _ => False, fun _ => 0, 0⟩ (ns.map V.int) (ns.map D.int) := fun ns => by
      induction ns with
      | nil => exact .nil
      | cons i r ih => exact .cons (.int i) ih
    refine ⟨⟨H, fun _ => False, fun _ => 0, 0⟩, [], [.scr (ns.map D.int)], ⟨Sub.refl _, fun l o e => ?_, fun l l' o o' e => ?_, fun i x e => (nomatch e), rfl, rfl, fun a p => p.elim⟩, .one (.scr hS (rl ns)), ?_⟩
    · cases l with
      | sl i => exact nomatch (show (none : Option MObj) = some o from e)
      | gl n => exact nomatch (show (none : Option MObj) = some o from e)
    · cases l with
      | sl i => exact nomatch (show (none : Option MObj) = some o from e)
      | gl n => exact nomatch (show (none : Option MObj) = some o from e)
    · obtain ⟨gl, e⟩ := plain ns hl
      rw [e]
      intro v g' H' _ _ r
      cases r
      rfl
  · obtain ⟨f1, fd1, F1, hm1, _, _, ⟨oc1, od1, osl1, lk1⟩, _⟩ := (F base).ex
    have ef : f1 = f0 := by rw [hm0] at hm1; cases hm1; rfl
    subst ef
    rw [lk] at lk1
    cases lk1
    exact fnOk_cx F1
end MI
/-! # Running mirrors: equations for simp -/
namespace MI
open PySem PySem.Spec PyProof.Rows L2

section
variable {s : S} {i j : Int} {x y : D} {e : List Slot} {gl : List MObj} {xs ys : List D}
theorem q_var_val {n : Nat} (h : e[n]? = some (.val x)) : mVar n ⟨e, gl⟩ = .ok (.d x) ⟨e, gl⟩ := by
  unfold mVar; simp only [h]
theorem q_var_own {n : Nat} {o : MObj} (h : e[n]? = some (.own o)) : mVar n ⟨e, gl⟩ = .ok (.at n) ⟨e, gl⟩ := by
  unfold mVar; simp only [h]
theorem q_c : mC x s = .ok (.d x) s := rfl
@[simp] theorem q_settle_d : settle (.d x) = some (.d x) := rfl
@[simp] theorem q_settle_at {n : Nat} : settle (.at n) = some (.at n) := rfl
@[simp] theorem q_settle_lst : settle (.new (.lst xs)) = some (.d (.lst xs)) := rfl
@[simp] theorem q_settle_dic {kvs : List (Key × D)} : settle (.new (.dic kvs)) = some (.d (.dic kvs)) := rfl
@[simp] theorem q_leak_d : leak (.d x) s = some (x, s) := rfl
@[simp] theorem q_leak_lst : leak (.new (.lst xs)) s = some (.lst xs, s) := rfl
@[simp] theorem q_leak_dic {kvs : List (Key × D)} : leak (.new (.dic kvs)) s = some (.dic kvs, s) := rfl
theorem q_leak_at {n : Nat} {o : MObj} {d : D} (h : e[n]? = some (.own o)) (hf : frzO o = some d) : leak (.at n) ⟨e, gl⟩ = some (d, ⟨e.set n (.val d), gl⟩) := by
  unfold leak; simp only [h, hf, Option.map_some]
@[simp] theorem q_frz_lst : frzO (.lst xs) = some (.lst xs) := rfl
@[simp] theorem q_frz_dic {kvs : List (Key × D)} : frzO (.dic kvs) = some (.dic kvs) := rfl
/- operations -/
@[simp] theorem q_add : opAdd s (.d (.int i)) (.d (.int j)) = .ok (.d (.int (i + j))) s := rfl
@[simp] theorem q_sub : opSub s (.d (.int i)) (.d (.int j)) = .ok (.d (.int (i - j))) s := rfl
theorem q_mul (h : cMul i j = true) : opMul s (.d (.int i)) (.d (.int j)) = .ok (.d (.int (i * j))) s := by
  unfold opMul orF opMulI fI asInt; simp only [h, if_true]
theorem q_mulR (h : j.natAbs < 2 ^ 64) : opMul s (.d (.int i)) (.d (.int j)) = .ok (.d (.int (i * j))) s := q_mul (by unfold cMul; simp only [decide_eq_true h, Bool.or_true, Bool.true_or])
theorem q_mulL (h : i.natAbs < 2 ^ 64) : opMul s (.d (.int i)) (.d (.int j)) = .ok (.d (.int (i * j))) s := q_mul (by unfold cMul; simp only [decide_eq_true h, Bool.or_true, Bool.true_or])
theorem q_mod (h : 0 < j) : opMod s (.d (.int i)) (.d (.int j)) = .ok (.d (.int (i % j))) s := by
  unfold opMod fI asInt cMod; simp only [decide_eq_true h, if_true]
theorem q_fdiv (h : 0 < j) (h2 : j < 1073741824) : opFdiv s (.d (.int i)) (.d (.int j)) = .ok (.d (.int (i / j))) s := by
  unfold opFdiv fI asInt cFdiv; simp only [decide_eq_true h, decide_eq_true h2, Bool.true_or, Bool.and_self, if_true]
theorem q_fdivW (h : 0 < j) (h2 : j.natAbs.log2 < 9000) : opFdiv s (.d (.int i)) (.d (.int j)) = .ok (.d (.int (i / j))) s := by
  unfold opFdiv fI asInt cFdiv; simp only [decide_eq_true h, decide_eq_true h2, Bool.or_true, Bool.and_self, if_true]
theorem q_addT (h : xs.length + ys.length ≤ sizeLine) : opAdd s (.d (.tup xs)) (.d (.tup ys)) = .ok (.d (.tup (xs ++ ys))) s := by
  unfold opAdd orF opAddI fI asInt opAddS asStr opAddT asTup; simp only [h, if_true]
theorem q_addL {a b : RV} (ha : asLst s a = some xs) (hb : asLst s b = some ys) (h : xs.length + ys.length ≤ sizeLine) : opAdd s a b = .ok (.new (.lst (xs ++ ys))) s := by
  have i1 : asInt a = none := by cases a with
    | d z => cases z <;> first | rfl | cases ha
    | «at» n => rfl
    | new o => rfl
  have i2 : asStr a = none := by cases a with
    | d z => cases z <;> first | rfl | cases ha
    | «at» n => rfl
    | new o => rfl
  have i3 : asTup a = none := by cases a with
    | d z => cases z <;> first | rfl | cases ha
    | «at» n => rfl
    | new o => rfl
  unfold opAdd orF opAddI fI opAddS opAddT opAddL
  simp only [i1, i2, i3, ha, hb, h, if_true]
theorem q_mulT1 : opMul s (.d (.tup xs)) (.d (.int 1)) = .ok (.d (.tup xs)) s := by
  have h : opMulT s (.d (.tup xs)) (.d (.int 1)) = .ok (.d (.tup xs)) s := by simp [opMulT, asTup, asInt]
  show (match opMulT s (.d (.tup xs)) (.d (.int 1)) with | .stuck => _ | r => r) = _
  rw [h]
theorem q_mulT {k : Int} (h0 : 2 ≤ k) (h1 : k ≤ 1000) (h2 : xs.length ≤ 1000) : opMul s (.d (.tup xs)) (.d (.int k)) = .ok (.d (.tup (List.replicate k.toNat xs).flatten)) s := by
  have h : opMulT s (.d (.tup xs)) (.d (.int k)) = .ok (.d (.tup (List.replicate k.toNat xs).flatten)) s := by
    by_cases hx : xs = []
    · subst hx
      have a1 : -(2 ^ 63) ≤ k := by omega
      have a2 : k < 2 ^ 63 := by omega
      have a3 : (List.replicate k.toNat ([] : List D)).flatten = [] := by simp
      rw [a3]
      simp only [opMulT, asTup, asInt, List.isEmpty_nil, Bool.true_or, if_true, a1, a2, and_self]
    · have e1 : xs.isEmpty = false := by cases xs with
        | nil => exact absurd rfl hx
        | cons _ _ => rfl
      have e2 : (k == 1) = false := by simp; omega
      simp only [opMulT, asTup, asInt, e1, e2, Bool.or_self, Bool.false_eq_true, if_false, h0, h1, h2, and_self, if_true]
  show (match opMulT s (.d (.tup xs)) (.d (.int k)) with | .stuck => _ | r => r) = _
  rw [h]
@[simp] theorem q_lt : opLt s (.d (.int i)) (.d (.int j)) = .ok (.d (.bl (decide (i < j)))) s := rfl
@[simp] theorem q_le : opLe s (.d (.int i)) (.d (.int j)) = .ok (.d (.bl (decide (i ≤ j)))) s := rfl
@[simp] theorem q_gt : opGt s (.d (.int i)) (.d (.int j)) = .ok (.d (.bl (decide (j < i)))) s := rfl
@[simp] theorem q_ge : opGe s (.d (.int i)) (.d (.int j)) = .ok (.d (.bl (decide (j ≤ i)))) s := rfl
theorem q_ixT {d : D} {zs : List D} (h : atI zs i = some d) : opIx s (.d (.tup zs)) (.d (.int i)) = .ok (.d d) s := by
  simp only [opIx, asInt, asTup, h]
theorem q_ixL {a : RV} {d : D} {zs : List D} (ha : asLst s a = some zs) (h : atI zs i = some d) : opIx s a (.d (.int i)) = .ok (.d d) s := by
  have h1 : asTup a = none := by cases a with
    | d z => cases z <;> first | rfl | cases ha
    | «at» n => rfl
    | new o => rfl
  simp only [opIx, asInt, h1, ha, h]
@[simp] theorem q_eqI {n : Bool} : opEq n s (.d (.int i)) (.d (.int j)) = .ok (.d (.bl ((i == j) != n))) s := rfl
theorem q_eq {n b : Bool} (hx : asD s (.d x) = some x) (hy : asD s (.d y) = some y) (h : eqvO 40 x y = some b) : opEq n s (.d x) (.d y) = .ok (.d (.bl (b != n))) s := by
  unfold opEq; simp only [hx, hy, h]
theorem eqAll_int {m : Nat} : ∀ (a b : List Int), eqAll (eqvO m) (a.map D.int) (b.map D.int) = some (decide (a = b))
  | [], [] => by simp [eqAll]
  | [], _ :: _ => by simp [eqAll]
  | _ :: _, [] => by simp [eqAll]
  | x :: xs, y :: ys => by
    have e : eqvO m (.int x) (.int y) = some (x == y) := by cases m <;> rfl
    simp only [List.map_cons, eqAll, e, eqAll_int xs ys, List.cons.injEq]
    by_cases h1 : x = y <;> by_cases h2 : xs = ys <;> simp [h1, h2]
@[simp] theorem q_eqT {n : Bool} {a b : List Int} : opEq n s (.d (.tup (a.map D.int))) (.d (.tup (b.map D.int))) = .ok (.d (.bl (decide (a = b) != n))) s :=
  q_eq rfl rfl (show eqAll (eqvO 39) (a.map D.int) (b.map D.int) = _ from eqAll_int a b)
@[simp] theorem q_lenT : fLen s (.d (.tup xs)) = .ok (.d (.int xs.length)) s := rfl
theorem q_lenL {a : RV} {zs : List D} (h : asD s a = some (.lst zs)) : fLen s a = .ok (.d (.int zs.length)) s := by
  unfold fLen; simp only [h, Option.bind_some, lenD]
@[simp] theorem q_int : fInt s (.d (.int i)) = .ok (.d (.int i)) s := rfl
@[simp] theorem q_neg : fNeg s (.d (.int i)) = .ok (.d (.int (-i))) s := rfl
end
/-! ### the combinators at a state -/
section
variable {s : S} {e : List Slot} {gl : List MObj} {i j k : Nat} {m a b c : M} {t u : S → Res Bool} {la : S → Res (List D)} {lr : S → Res (List RV)} {p q : S → Res Out} {f g : S → RV → RV → Res RV} {h : S → RV → Res RV} {x : D} {lo hi : S → Res (Option Int)}
@[simp] theorem ap_C : mC x s = .ok (.d x) s := rfl
@[simp] theorem ap_Var : mVar i ⟨e, gl⟩ = (match e[i]? with | some (.val x) => .ok (.d x) ⟨e, gl⟩ | some (.own _) => .ok (.at i) ⟨e, gl⟩ | _ => .stuck) := rfl
@[simp] theorem ap_Leak : mLeak m s = (m s).bind fun r s1 => match leak r s1 with | some (d, s2) => .ok d s2 | none => .stuck := rfl
@[simp] theorem ap_Settle : mSettle m s = (m s).bind fun r s1 => match settle r with | some r' => .ok r' s1 | none => .stuck := rfl
@[simp] theorem ap_Bin : mBin f a b s = (mSettle a s).bind fun x s1 => (b s1).bind fun y s2 => f s2 x y := rfl
@[simp] theorem ap_ANil : mANil s = .ok [] s := rfl
@[simp] theorem ap_ACons : mACons a la s = (mLeak a s).bind fun d s1 => (la s1).bind fun ds s2 => .ok (d :: ds) s2 := rfl
@[simp] theorem ap_Tup : mTup la s = (la s).bind fun ds s1 => if ds.length ≤ sizeLine then .ok (.d (.tup ds)) s1 else .stuck := rfl
@[simp] theorem ap_Lst : mLst la s = (la s).bind fun ds s1 => if ds.length ≤ sizeLine then .ok (.new (.lst ds)) s1 else .stuck := rfl
@[simp] theorem ap_Call {fm : Fm} : mCall fm la s = (la s).bind fun ds s1 => match fm ds s1.gl with | .ok d gl => .ok (.d d) { s1 with gl := gl } | .exc c p gl => .exc c p { s1 with gl := gl } | .stuck => .stuck := rfl
@[simp] theorem ap_Nx : mNx s = .ok .nx s := rfl
@[simp] theorem ap_Seq : mSeq p q s = (match p s with | .ok .nx s1 => q s1 | r => r) := rfl
@[simp] theorem ap_Expr : mExpr m s = (m s).bind fun _ s1 => .ok .nx s1 := rfl
@[simp] theorem ap_Ret : mRet m s = (mLeak m s).bind fun d s1 => .ok (.rt d) s1 := rfl
@[simp] theorem ap_RetN : mRetN s = .ok (.rt .non) s := rfl
@[simp] theorem ap_IfS : mIfS t p q s = (t s).bind fun c s1 => if c = true then p s1 else q s1 := rfl
@[simp] theorem ap_Set : mSet i m s = (m s).bind fun r s1 => match MI.assign i r s1 with | some s2 => .ok .nx s2 | none => .stuck := rfl
@[simp] theorem ap_Brk : mBrk s = .ok .bk s := rfl
@[simp] theorem ap_Cont : mCont s = .ok .ct s := rfl
@[simp] theorem ap_Hold : mHold a s = (a s).bind fun r s1 => match r with | .at i => (match leak (.at i) s1 with | some (d, s2) => .ok (.d d) s2 | none => .stuck) | r => .ok r s1 := by
  unfold mHold
  cases a s <;> rfl
@[simp] theorem ap_RNil : mRNil s = .ok [] s := rfl
@[simp] theorem ap_RCons : mRCons a lr s = (mHold a s).bind fun x s1 => (lr s1).bind fun xs s2 => .ok (x :: xs) s2 := rfl
@[simp] theorem ap_ParN {is : List Nat} : mParN is lr s = (lr s).bind fun rs s1 => match assignAll is rs s1 with | some s2 => .ok .nx s2 | none => .stuck := rfl
@[simp] theorem ap_Unp {is : List Nat} : mUnp is m s = (mLeak m s).bind fun d s1 => match d with | .tup ds => (match assignAll is (ds.map .d) s1 with | some s2 => .ok .nx s2 | none => .stuck) | _ => .stuck := by
  unfold mUnp
  cases mLeak m s <;> rfl
@[simp] theorem ap_NoPart : mNoPart s = .ok none s := rfl
@[simp] theorem ap_Part : mPart m s = (m s).bind fun r s1 => match asInt r with | some i => .ok (some i) s1 | none => .stuck := rfl
@[simp] theorem ap_Slice : mSlice a lo hi s = (mSettle a s).bind fun x s1 => (lo s1).bind fun l s2 => (hi s2).bind fun u s3 => opSl l u s3 x := rfl
@[simp] theorem ap_Fn1 : mFn1 h m s = (m s).bind fun r s1 => h s1 r := rfl
@[simp] theorem ap_Fn2 {o : Int → Int → Int} : mFn2 o la s = (la s).bind fun ds s1 => match ds with | [.int i, .int j] => .ok (.d (.int (o i j))) s1 | _ => .stuck := rfl
@[simp] theorem ap_Tru : mTru m s = (m s).bind fun r s1 => match (asD s1 r).bind truthD with | some b => .ok b s1 | none => .stuck := rfl
@[simp] theorem ap_NotT : mNotT t s = (t s).bind fun b s1 => .ok (!b) s1 := rfl
@[simp] theorem ap_AndT : mAndT t u s = (t s).bind fun c s1 => if c = true then u s1 else .ok false s1 := rfl
@[simp] theorem ap_OrT : mOrT t u s = (t s).bind fun c s1 => if c = true then .ok true s1 else u s1 := rfl
@[simp] theorem ap_If : mIf t a b s = (t s).bind fun c s1 => if c = true then a s1 else b s1 := rfl
@[simp] theorem ap_Bl : mBl m s = (m s).bind fun r s1 => match r with | .d (.bl b) => .ok b s1 | _ => .stuck := rfl
@[simp] theorem ap_AndV : mAndV a b s = (a s).bind fun r s1 => match r with | .d (.bl c) => if c = true then b s1 else .ok (.d (.bl false)) s1 | _ => .stuck := rfl
@[simp] theorem ap_OrV : mOrV a b s = (a s).bind fun r s1 => match r with | .d (.bl c) => if c = true then .ok (.d (.bl true)) s1 else b s1 | _ => .stuck := rfl
@[simp] theorem ap_NotV : mNotV a s = (a s).bind fun r s1 => match r with | .d (.bl c) => .ok (.d (.bl (!c))) s1 | _ => .stuck := rfl
@[simp] theorem ap_Chain : mChain f g a b c s = (mSettle a s).bind fun x s1 => (mSettle b s1).bind fun y s2 => (f s2 x y).bind fun z s3 => match z with | .d (.bl k) => if k = true then (c s3).bind fun w s4 => g s4 y w else .ok (.d (.bl false)) s3 | _ => .stuck := rfl
@[simp] theorem ap_Seqi : iSeq m s = (mLeak m s).bind fun d s1 => match d with | .lst xs => .ok xs s1 | .tup xs => .ok xs s1 | .scr xs => .ok xs s1 | _ => .stuck := rfl
theorem rng1_ok {j : Int} (h0 : 0 ≤ j) (h1 : j ≤ 1000000) : rng1 j = some (rangeD 0 j.toNat) := (rng1_eq j).trans (if_pos ⟨by omega, by omega⟩)
theorem rng1_nat {n : Nat} (h1 : n ≤ 1000000) : rng1 (n : Int) = some (rangeD 0 n) := rng1_ok (by omega) (by omega)
theorem rng2_ok {i j : Int} (h0 : -1000000 ≤ i) (h1 : i ≤ 1000000) (h2 : -1000000 ≤ j) (h3 : j ≤ 1000000) : rng2 i j = some (rangeD i (j - i).toNat) := (rng2_eq i j).trans (if_pos ⟨by omega, by omega, by omega, by omega⟩)
def optR {α : Type} (o : Option α) (s : S) : Res α := match o with
  | some l => .ok l s
  | none => .stuck
@[simp] theorem optR_some {α : Type} {l : α} : optR (some l) s = .ok l s := rfl
noncomputable def rngA (ds : List D) : Option (List D) := match ds with
  | [.int j] => rng1 j
  | _ => none
noncomputable def rngB (ds : List D) : Option (List D) := match ds with
  | [.int i, .int j] => rng2 i j
  | _ => none
@[simp] theorem rngA_1 {j : Int} : rngA [.int j] = rng1 j := Eq.trans rfl rfl
@[simp] theorem rngB_2 {i j : Int} : rngB [.int i, .int j] = rng2 i j := Eq.trans rfl rfl
@[simp] theorem ap_Range1 : iRange1 la s = (la s).bind fun ds s1 => optR (rngA ds) s1 := by
  unfold iRange1
  cases la s with
  | ok ds s1 =>
    simp only [Res.bind_ok]
    split
    · rename_i j
      rw [rngA_1]; unfold optR; cases rng1 j <;> rfl
    · rename_i h
      unfold rngA
      split
      · exact absurd rfl (h _)
      · rfl
  | exc c p s1 => rfl
  | stuck => rfl
@[simp] theorem ap_Range2 : iRange2 la s = (la s).bind fun ds s1 => optR (rngB ds) s1 := by
  unfold iRange2
  cases la s with
  | ok ds s1 =>
    simp only [Res.bind_ok]
    split
    · rename_i i j
      rw [rngB_2]; unfold optR; cases rng2 i j <;> rfl
    · rename_i h
      unfold rngB
      split
      · exact absurd rfl (h _ _)
      · rfl
  | exc c p s1 => rfl
  | stuck => rfl
@[simp] theorem ap_For {it : S → Res (List D)} {tg : D → S → Option S} : mFor it tg p s = (it s).bind fun ds s1 => forGo tg p ds s1 := rfl
@[simp] theorem ap_Yes : mYes s = .ok true s := rfl
@[simp] theorem ap_Alloc : mAlloc m s = (m s).bind fun r s1 => match r with | .new o => .ok (.d (.ref s1.gl.length)) { s1 with gl := s1.gl ++ [o] } | _ => .stuck := rfl
@[simp] theorem ap_Comp {vs : List Nat} {it : S → Res (List D)} {tg : D → S → Option S} : mComp vs it tg t m s = (it s).bind fun ds s1 => if noOwn s1.env vs = true then (match compGo vs tg t (mLeak m) ds [] (wipeS s1 vs) with
  | some (acc, s2) => .ok (.new (.lst acc)) { s2 with env := restE s1.env s2.env vs }
  | none => .stuck) else .stuck := rfl
@[simp] theorem ap_Raise {x f : Str} : mRaise x f m s = (mLeak m s).bind fun d s1 => match d with | .int i => if i.natAbs ≤ 1000000 then .exc x (.tup [.str f, .int i]) s1 else .stuck | _ => .stuck := rfl
@[simp] theorem ap_tgName : tgName i x s = MI.assign i (.d x) s := rfl
theorem as_d {x : D} (h : i < e.length) : MI.assign i (.d x) ⟨e, gl⟩ = some ⟨e.set i (.val x), gl⟩ := if_pos h
theorem as_new {o : MObj} (h : i < e.length) : MI.assign i (.new o) ⟨e, gl⟩ = some ⟨e.set i (.own o), gl⟩ := if_pos h
@[simp] theorem asA_nil : assignAll [] [] s = some s := rfl
@[simp] theorem asA_cons {r : RV} {is : List Nat} {rs : List RV} : assignAll (i :: is) (r :: rs) s = (match MI.assign i r s with | some s1 => assignAll is rs s1 | none => none) := rfl
@[simp] theorem ap_SetIx {v o ix : M} : mSetIx v o ix s = (mLeak v s).bind fun d s1 => (o s1).bind fun r s2 => match locOf r with
  | some l => (match cellOf s2 l with
    | some _ => (mLeak ix s2).bind fun k s3 => (match cellOf s3 l, k with
      | some (.lst xs), .int k => (match ixN xs.length k with
        | some j => .ok .nx (setCell s3 l (.lst (xs.set j d)))
        | none => .stuck)
      | _, _ => .stuck)
    | _ => .stuck)
  | none => .stuck := rfl
@[simp] theorem ap_Lm1 {fn : List D → D → Option (D × List D)} : mLm1 fn a b s = (a s).bind fun r s1 => match locOf r with
  | some l => (match cellOf s1 l with
    | some (.lst _) => (mLeak b s1).bind fun d s2 => (match cellOf s2 l with
      | some (.lst xs) => (match fn xs d with
        | some (x, ys) => .ok (.d x) (setCell s2 l (.lst ys))
        | none => .stuck)
      | _ => .stuck)
    | _ => .stuck)
  | none => .stuck := rfl
@[simp] theorem cell_gl {n : Nat} : cellOf ⟨e, gl⟩ (.gl n) = gl[n]? := rfl
@[simp] theorem cell_slot {n : Nat} : cellOf ⟨e, gl⟩ (.sl n) = (match e[n]? with | some (.own o) => some o | _ => none) := rfl
@[simp] theorem setCell_gl {n : Nat} {o : MObj} : setCell ⟨e, gl⟩ (.gl n) o = ⟨e, gl.set n o⟩ := rfl
@[simp] theorem setCell_sl {n : Nat} {o : MObj} : setCell ⟨e, gl⟩ (.sl n) o = ⟨e.set n (.own o), gl⟩ := rfl
end
@[simp] theorem forGo_nil {t : D → S → Option S} {p : S → Res Out} {s : S} : forGo t p [] s = .ok .nx s := rfl
theorem forGo_cons {t : D → S → Option S} {p : S → Res Out} {s : S} {d : D} {ds : List D} : forGo t p (d :: ds) s = (match t d s with
    | none => .stuck
    | some s1 => match p s1 with
      | .ok .nx s2 => forGo t p ds s2
      | .ok .ct s2 => forGo t p ds s2
      | .ok .bk s2 => .ok .nx s2
      | r => r) := rfl
theorem mDef_ok {n N : Nat} {body : S → Res Out} {ds : List D} {gl gl' : List MObj} {d : D} {e : List Slot} (hl : ds.length = n) (h : body ⟨ds.map Slot.val ++ List.replicate (N - n) Slot.none, gl⟩ = .ok (.rt d) ⟨e, gl'⟩) : mDef n N body ds gl = .ok d gl' := by
  unfold mDef
  rw [if_pos hl, h]
theorem mDef_exc {n N : Nat} {body : S → Res Out} {ds : List D} {gl gl' : List MObj} {c : Str} {p : D} {e : List Slot} (hl : ds.length = n) (h : body ⟨ds.map Slot.val ++ List.replicate (N - n) Slot.none, gl⟩ = .exc c p ⟨e, gl'⟩) : mDef n N body ds gl = .exc c p gl' := by
  unfold mDef
  rw [if_pos hl, h]
/-! ### lists of ints -/
abbrev IL (l : List Int) : List D := l.map D.int
theorem szN (n : Nat) (h : n ≤ 1000000) : n ≤ sizeLine := by rw [sizeLine_eq]; omega
@[simp] theorem sz0 : 0 ≤ sizeLine := Nat.zero_le _
@[simp] theorem sz1 : 1 ≤ sizeLine := szN _ (by omega)
@[simp] theorem sz1' : 1 < sizeLine := by rw [sizeLine_eq]; omega
@[simp] theorem sz2 : 2 ≤ sizeLine := szN _ (by omega)
@[simp] theorem sz3 : 3 ≤ sizeLine := szN _ (by omega)
@[simp] theorem sz4 : 4 ≤ sizeLine := szN _ (by omega)
@[simp] theorem sz5 : 5 ≤ sizeLine := szN _ (by omega)
@[simp] theorem sz6 : 6 ≤ sizeLine := szN _ (by omega)
section
variable {s : S} {a b : List Int} {i j : Int}
theorem q_addI (h : a.length + b.length ≤ 1000000) : opAdd s (.d (.tup (IL a))) (.d (.tup (IL b))) = .ok (.d (.tup (IL (a ++ b)))) s := by
  rw [q_addT (szN _ (by simpa using h))]
  simp
theorem q_addIL (h : a.length + b.length ≤ 1000000) {x y : RV} (hx : asLst s x = some (IL a)) (hy : asLst s y = some (IL b)) : opAdd s x y = .ok (.new (.lst (IL (a ++ b)))) s := by
  rw [q_addL hx hy (szN _ (by simpa using h))]
  simp
theorem q_shl (h : 0 ≤ j) (h1 : j ≤ 1000000) (h2 : i.natAbs < 2 ^ 64) : opShl s (.d (.int i)) (.d (.int j)) = .ok (.d (.int (i * 2 ^ j.toNat))) s := by
  have c : cPow i j = true := by
    unfold cPow
    rw [decide_eq_true h, decide_eq_true h1, decide_eq_true h2]
    rfl
  simp only [opShl, fI, asInt, c, if_true]
theorem atI_il {d : Int} (h0 : 0 ≤ i) (h : a[i.toNat]? = some d) : atI (IL a) i = some (.int d) := by
  have hl : i.toNat < a.length := (List.getElem?_eq_some_iff.mp h).1
  unfold atI ixN
  rw [if_pos h0, if_pos (by rw [List.length_map]; omega)]
  show (IL a)[i.toNat]? = _
  rw [List.getElem?_map, h]
  rfl
theorem cut_il {lo hi : Option Int} : cut (IL a) lo hi = IL (cut a lo hi) := by
  unfold cut
  rw [List.length_map, ← List.map_drop, ← List.map_take]
theorem q_slT {lo hi : Option Int} : opSl lo hi s (.d (.tup (IL a))) = .ok (.d (.tup (IL (cut a lo hi)))) s := by
  unfold opSl
  simp only [asTup, cut_il]
theorem cut_lo {α : Type} {xs : List α} {k : Nat} (h : k ≤ xs.length) : cut xs (some (k : Int)) none = xs.drop k := by
  unfold cut HT.sIx
  have e : ¬ ((k : Int) < 0) := by omega
  simp only [e, if_false, Int.toNat_natCast, Nat.min_eq_left h]
  rw [List.take_of_length_le]
  simp
theorem cut_hi {α : Type} {xs : List α} {k : Nat} (h : k ≤ xs.length) : cut xs none (some (k : Int)) = xs.take k := by
  unfold cut HT.sIx
  have e : ¬ ((k : Int) < 0) := by omega
  simp only [e, if_false, Int.toNat_natCast, Nat.min_eq_left h, List.drop_zero, Nat.sub_zero]
theorem cut_lohi {α : Type} {xs : List α} {k m : Nat} (h : k ≤ m) (h2 : m ≤ xs.length) : cut xs (some (k : Int)) (some (m : Int)) = (xs.drop k).take (m - k) := by
  unfold cut HT.sIx
  have e : ¬ ((k : Int) < 0) := by omega
  have e2 : ¬ ((m : Int) < 0) := by omega
  simp only [e, e2, if_false, Int.toNat_natCast, Nat.min_eq_left (Nat.le_trans h h2), Nat.min_eq_left h2]
end
@[simp] theorem sz0' : 0 < sizeLine := by rw [sizeLine_eq]; omega
@[simp] theorem sz2' : 2 < sizeLine := by rw [sizeLine_eq]; omega
@[simp] theorem sz3' : 3 < sizeLine := by rw [sizeLine_eq]; omega
@[simp] theorem sz4' : 4 < sizeLine := by rw [sizeLine_eq]; omega
@[simp] theorem sz5' : 5 < sizeLine := by rw [sizeLine_eq]; omega
/-! ### comprehensions over one name -/
inductive All2 {α β : Type} (R : α → β → Prop) : List α → List β → Prop
  | nil : All2 R [] []
  | cons {a : α} {b : β} {as : List α} {bs : List β} : R a b → All2 R as bs → All2 R (a :: as) (b :: bs)
section
variable {v : Nat} {e : M} {env : List Slot} {gl : List MObj}
theorem restE_one (hv : v < env.length) : restE env (env.set v .none) [v] = env := by
  show ((env.set v Slot.none).set v ((env[v]?).getD .none)) = env
  rw [List.set_set, List.getElem?_eq_getElem hv]
  simp
theorem set_none_set {x : Slot} : (env.set v x).set v .none = env.set v .none := List.set_set ..
theorem compGo_inv {P : List MObj → Prop} {R : D → D → Prop} (hv : v < env.length) : ∀ (ds acc : List D) (gl : List MObj), P gl → acc.length + ds.length ≤ sizeLine →
    (∀ d ∈ ds, ∀ gl, P gl → ∃ y gl', mLeak e ⟨env.set v (.val d), gl⟩ = .ok y ⟨env.set v (.val d), gl'⟩ ∧ P gl' ∧ R d y) →
    ∃ ys gl', compGo [v] (tgName v) mYes (mLeak e) ds acc ⟨env.set v .none, gl⟩ = some (acc ++ ys, ⟨env.set v .none, gl'⟩) ∧ P gl' ∧ All2 R ds ys
  | [], acc, gl, hP, _, _ => ⟨[], gl, by simp [compGo], hP, .nil⟩
  | d :: ds, acc, gl, hP, hl, he => by
    obtain ⟨y, gl1, e1, P1, R1⟩ := he d List.mem_cons_self gl hP
    have hl' : acc.length < sizeLine := by simp only [List.length_cons] at hl; omega
    obtain ⟨ys, gl2, e2, P2, R2⟩ := compGo_inv hv ds (acc ++ [y]) gl1 P1 (by simp only [List.length_append, List.length_cons, List.length_nil] at hl ⊢; omega) fun d' m => he d' (List.mem_cons_of_mem _ m)
    refine ⟨y :: ys, gl2, ?_, P2, .cons R1 R2⟩
    have ta : tgName v d ⟨env.set v .none, gl⟩ = some ⟨env.set v (.val d), gl⟩ := by
      rw [ap_tgName, as_d (by simpa using hv), List.set_set]
    unfold compGo
    rw [ta]
    simp only [ap_Yes, if_true, e1, hl']
    show compGo [v] (tgName v) mYes (mLeak e) ds (acc ++ [y]) ⟨(env.set v (.val d)).set v .none, gl1⟩ = _
    rw [List.set_set, e2]
    simp
theorem comp_inv {P : List MObj → Prop} {R : D → D → Prop} {it : S → Res (List D)} {s0 : S} {ds : List D} (hi : it s0 = .ok ds ⟨env, gl⟩) (hv : v < env.length) (ho : noOwn env [v] = true) (hP : P gl) (hl : ds.length ≤ sizeLine)
    (he : ∀ d ∈ ds, ∀ gl, P gl → ∃ y gl', mLeak e ⟨env.set v (.val d), gl⟩ = .ok y ⟨env.set v (.val d), gl'⟩ ∧ P gl' ∧ R d y) :
    ∃ ys gl', mComp [v] it (tgName v) mYes e s0 = .ok (.new (.lst ys)) ⟨env, gl'⟩ ∧ P gl' ∧ All2 R ds ys := by
  obtain ⟨ys, gl', h1, h2, h3⟩ := compGo_inv hv ds [] gl hP (by simpa using hl) he
  refine ⟨ys, gl', ?_, h2, h3⟩
  rw [ap_Comp, hi, Res.bind_ok, if_pos ho]
  show (match compGo [v] (tgName v) mYes (mLeak e) ds [] ⟨env.set v .none, gl⟩ with | some (acc, s2) => Res.ok (RV.new (.lst acc)) ⟨restE env s2.env [v], s2.gl⟩ | none => .stuck) = _
  rw [h1]
  show Res.ok (RV.new (.lst ([] ++ ys))) (⟨restE env (env.set v .none) [v], gl'⟩ : S) = _
  rw [restE_one hv, List.nil_append]
theorem forall2_map {g : D → D} : ∀ {ds ys : List D}, All2 (fun d y => y = g d) ds ys → ys = ds.map g
  | _, _, .nil => rfl
  | _, _, .cons h t => by rw [h, forall2_map t]; rfl
theorem comp_map {it : S → Res (List D)} {s0 : S} {ds : List D} {g : D → D} (hi : it s0 = .ok ds ⟨env, gl⟩) (hv : v < env.length) (ho : noOwn env [v] = true) (hl : ds.length ≤ sizeLine)
    (he : ∀ d ∈ ds, mLeak e ⟨env.set v (.val d), gl⟩ = .ok (g d) ⟨env.set v (.val d), gl⟩) :
    mComp [v] it (tgName v) mYes e s0 = .ok (.new (.lst (ds.map g))) ⟨env, gl⟩ := by
  obtain ⟨ys, gl', h1, h2, h3⟩ := comp_inv (P := fun z => z = gl) (R := fun d y => y = g d) hi hv ho rfl hl fun d m z hz => ⟨g d, gl, by rw [hz]; exact he d m, rfl, rfl⟩
  rw [h1, h2, forall2_map h3]
theorem rangeD_map (lo : Int) : ∀ n : Nat, rangeD lo n = (List.range n).map fun (k : Nat) => D.int (lo + (k : Int))
  | 0 => rfl
  | n + 1 => by
    rw [rangeD, rangeD_map (lo + 1) n, List.range_succ_eq_map, List.map_cons, List.map_map]
    have e0 : lo + ((0 : Nat) : Int) = lo := by omega
    rw [e0]
    congr 1
    refine List.map_congr_left fun k _ => ?_
    show D.int (lo + 1 + (k : Int)) = D.int (lo + ((k + 1 : Nat) : Int))
    congr 1
    omega
theorem rangeD_length (lo : Int) : ∀ n : Nat, (rangeD lo n).length = n
  | 0 => rfl
  | n + 1 => by rw [rangeD, List.length_cons, rangeD_length]
end
section
variable {s : S} {xs : List D} {n : Nat} {e : List Slot} {gl : List MObj}
@[simp] theorem q_listT : fList s (.d (.tup xs)) = .ok (.new (.lst xs)) s := rfl
@[simp] theorem q_listL : fList s (.d (.lst xs)) = .ok (.new (.lst xs)) s := rfl
@[simp] theorem q_listN : fList s (.new (.lst xs)) = .ok (.new (.lst xs)) s := rfl
@[simp] theorem q_tupT : fTuple s (.d (.tup xs)) = .ok (.d (.tup xs)) s := rfl
@[simp] theorem q_tupL : fTuple s (.d (.lst xs)) = .ok (.d (.tup xs)) s := rfl
@[simp] theorem q_tupN : fTuple s (.new (.lst xs)) = .ok (.d (.tup xs)) s := rfl
@[simp] theorem q_lenD : fLen s (.d (.lst xs)) = .ok (.d (.int xs.length)) s := rfl
@[simp] theorem q_lenN : fLen s (.new (.lst xs)) = .ok (.d (.int xs.length)) s := rfl
end
/-! ### loops by an invariant -/
theorem for_inv {t : D → S → Option S} {p : S → Res Out} {Inv : S → Prop} : ∀ (ds : List D) (s : S), Inv s → (∀ d ∈ ds, ∀ s, Inv s → ∃ s1 s2, t d s = some s1 ∧ p s1 = .ok .nx s2 ∧ Inv s2) → ∃ s', forGo t p ds s = .ok .nx s' ∧ Inv s'
  | [], s, h, _ => ⟨s, rfl, h⟩
  | d :: ds, s, h, hp => by
    obtain ⟨s1, s2, h1, h2, h3⟩ := hp d List.mem_cons_self s h
    obtain ⟨s', h4, h5⟩ := for_inv ds s2 h3 fun d' m => hp d' (List.mem_cons_of_mem _ m)
    exact ⟨s', by rw [forGo_cons, h1]; simp only [h2]; exact h4, h5⟩
theorem seq_nx {a b : S → Res Out} {s s1 : S} (h : a s = .ok .nx s1) : mSeq a b s = b s1 := by rw [ap_Seq, h]
theorem mem_rangeD {lo : Int} {n : Nat} {d : D} (h : d ∈ rangeD lo n) : ∃ k : Nat, k < n ∧ d = .int (lo + k) := by
  rw [rangeD_map] at h
  obtain ⟨k, hk, rfl⟩ := List.mem_map.mp h
  exact ⟨k, List.mem_range.mp hk, rfl⟩
theorem set_parts {α : Type} (l : List α) (k : Nat) (b : α) (h : k < l.length) : l.take k ++ [b] ++ l.drop (k + 1) = l.set k b := by
  rw [List.set_eq_take_append_cons_drop, if_pos h]
  simp
@[simp] theorem ap_TryX {x f : Str} {i j : Nat} {b : S → Res Out} {s : S} : mTryX x i j f b s = (match b s with
  | .exc c p s1 => (match tbOne x c with
    | some true => (match p with
      | .tup [.str f', q] => if f' = f ∧ i ≠ j ∧ i < s1.env.length then (match MI.assign j (.d q) { s1 with env := s1.env.set i .none } with
        | some s2 => .ok .nx s2
        | none => .stuck) else .stuck
      | _ => .stuck)
    | some false => .exc c p s1
    | none => .stuck)
  | r => r) := rfl
@[simp] theorem tb_same {x : Str} : tbOne x x = some true := if_pos rfl
end MI
namespace K19
open PySem PySem.Spec PyProof.Rows L2 MI
abbrev tp (i : Nat) : Stmt := PySem.Challenge.pw_postingstold_k19_whole_seals.main.body.getD i (.Pass ⟨0, 0, 0, 0⟩)
structure Fx (P : Program) (K : PySem.W.Frag) (mg : Str → Option Value) : Prop where
  g_len : mg "len" = none
  x_BadBytes : XcT P K mg "BadBytes" "place"
  d_byte_at : DefM K mg "byte_at" (defArgs (tp 5)) (defBody (tp 5)) (defScope (tp 5))
  v_GROUP : GInt mg "GROUP" 128
  d_number_bytes : DefM K mg "number_bytes" (defArgs (tp 6)) (defBody (tp 6)) (defScope (tp 6))
  d_read_number : DefM K mg "read_number" (defArgs (tp 7)) (defBody (tp 7)) (defScope (tp 7))
  v_STEP : GInt mg "STEP" 257
  v_ROUND : GInt mg "ROUND" 4294967291
  d_check_of : DefM K mg "check_of" (defArgs (tp 12)) (defBody (tp 12)) (defScope (tp 12))
  d_check_bytes : DefM K mg "check_bytes" (defArgs (tp 13)) (defBody (tp 13)) (defScope (tp 13))
  g_tuple : mg "tuple" = none
  d_sealed : DefM K mg "sealed" (defArgs (tp 14)) (defBody (tp 14)) (defScope (tp 14))
  g_min : mg "min" = none
  v_CHECK : GInt mg "CHECK" 4
  d_opened : DefM K mg "opened" (defArgs (tp 15)) (defBody (tp 15)) (defScope (tp 15))
  g_list : mg "list" = none
  d__law_box : DefM K mg "_law_box" (defArgs (tp 17)) (defBody (tp 17)) (defScope (tp 17))
  g_int : mg "int" = none
  d__law_load : DefM K mg "_law_load" (defArgs (tp 18)) (defBody (tp 18)) (defScope (tp 18))
  d__law_draw : DefM K mg "_law_draw" (defArgs (tp 19)) (defBody (tp 19)) (defScope (tp 19))
  g_isinstance : mg "isinstance" = none
  g_str : mg "str" = none
  g_bool : mg "bool" = none
  g_range : mg "range" = none
  g_all : mg "all" = none
  d__law_same : DefM K mg "_law_same" (defArgs (tp 20)) (defBody (tp 20)) (defScope (tp 20))
  d__law_number : DefM K mg "_law_number" (defArgs (tp 21)) (defBody (tp 21)) (defScope (tp 21))
  d__law_check : DefM K mg "_law_check" (defArgs (tp 22)) (defBody (tp 22)) (defScope (tp 22))
  d__law_seal : DefM K mg "_law_seal" (defArgs (tp 23)) (defBody (tp 23)) (defScope (tp 23))
  d__law_told : DefM K mg "_law_told" (defArgs (tp 24)) (defBody (tp 24)) (defScope (tp 24))
  d__law_length : DefM K mg "_law_length" (defArgs (tp 25)) (defBody (tp 25)) (defScope (tp 25))
  d__law_place : DefM K mg "_law_place" (defArgs (tp 26)) (defBody (tp 26)) (defScope (tp 26))
  d_law : DefM K mg "law" (defArgs (tp 27)) (defBody (tp 27)) (defScope (tp 27))
noncomputable section
variable {P : Program} {w : World} {K : PySem.W.Frag} {mg : Str → Option Value} {base : Heap}
theorem sc_byte_at : FnScope ["data", "place"] ["data", "place"] (defScope (tp 5)) := sc_of (by decide +kernel)
def b_byte_at : S → Res Out := (mSeq (mIfS (mBl (mBin opGe (mVar 1) (mFn1 fLen (mVar 0)))) (mRaise "BadBytes" "place" (mFn1 fLen (mVar 0))) mNx) (mRet (mBin opIx (mVar 0) (mVar 1))))
def f_byte_at : Fm := mDef 2 2 b_byte_at
theorem F_byte_at (c : Fx P K mg) : FnM P w K mg base 4 "byte_at" ["data", "place"] f_byte_at := by
  refine fnM (N := ["data", "place"]) (m := b_byte_at) c.d_byte_at sc_byte_at (by decide) (fun _ _ _ _ _ _ us hl => match us, hl with | [_, _], _ => rfl) fun f cdv A outer s H E hr => ?_
  have nd := (sc_byte_at).nd
  exact (mss_cons (ms_if (mt_cmp or_ge os_ge (me_var (i := 1)) (me_len (me_var (i := 0)) (by rfl) c.g_len) (nomark _)) (mss_one (ms_raise c.x_BadBytes.xm (hr.mono (by decide)) (by rfl) takesC (by rfl) (me_len (me_var (i := 0)) (by rfl) c.g_len))) mss_nil) (mss_one (ms_ret (me_ix (me_var (i := 0)) (me_var (i := 1))))))
theorem sc_number_bytes : FnScope ["number", "found"] ["number"] (defScope (tp 6)) := sc_of (by decide +kernel)
def t_number_bytes_1 : S → Res Bool := (mBl (mBin opGt (mVar 0) (mC (.int 0))))
def l_number_bytes_2 : S → Res Out := (mSeq (mExpr (mLm1 fAppend (mVar 1) (mBin opMod (mVar 0) (mC (.int 128))))) (mSet 0 (mBin opFdiv (mVar 0) (mC (.int 128)))))
def b_number_bytes : S → Res Out := (mSeq (mSet 1 (mLst (mACons (mBin opAdd (mC (.int 128)) (mBin opMod (mVar 0) (mC (.int 128)))) mANil))) (mSeq (mSet 0 (mBin opFdiv (mVar 0) (mC (.int 128)))) (mSeq (mWhile t_number_bytes_1 l_number_bytes_2) (mRet (mBin opRev (mVar 1) (mFn1 fNeg (mC (.int 1))))))))
def f_number_bytes : Fm := mDef 1 2 b_number_bytes
theorem F_number_bytes (c : Fx P K mg) : FnM P w K mg base 1 "number_bytes" ["number"] f_number_bytes := by
  refine fnM (N := ["number", "found"]) (m := b_number_bytes) c.d_number_bytes sc_number_bytes (by decide) (fun _ _ _ _ _ _ us hl => match us, hl with | [_], _ => rfl) fun f cdv A outer s H E hr => ?_
  have nd := (sc_number_bytes).nd
  exact (mss_cons (ms_set (i := 1) (me_lst (ma_cons (me_add (me_gint c.v_GROUP (by rfl)) (me_mod (me_var (i := 0)) (me_gint c.v_GROUP (by rfl)))) ma_nil)) nd) (mss_cons (ms_set (i := 0) (me_fdiv (me_var (i := 0)) (me_gint c.v_GROUP (by rfl))) nd) (mss_cons (ms_while owns (mt_cmp or_gt os_gt (me_var (i := 0)) me_int (nomark _)) (mss_cons (ms_expr (me_append (me_var (i := 1)) (me_mod (me_var (i := 0)) (me_gint c.v_GROUP (by rfl))))) (mss_one (ms_set (i := 0) (me_fdiv (me_var (i := 0)) (me_gint c.v_GROUP (by rfl))) nd)))) (mss_one (ms_ret (me_rev (me_var (i := 1)) (me_neg me_int)))))))
theorem sc_read_number : FnScope ["data", "place", "found", "byte"] ["data", "place"] (defScope (tp 7)) := sc_of (by decide +kernel)
def t_read_number_1 : S → Res Bool := (mBl (mBin opLt (mVar 3) (mC (.int 128))))
def l_read_number_2 : S → Res Out := (mSeq (mParN [2, 1] (mRCons (mBin opAdd (mBin opMul (mVar 2) (mC (.int 128))) (mVar 3)) (mRCons (mBin opAdd (mVar 1) (mC (.int 1))) mRNil))) (mSet 3 (mCall f_byte_at (mACons (mVar 0) (mACons (mVar 1) mANil)))))
def b_read_number : S → Res Out := (mSeq (mParN [2, 3] (mRCons (mC (.int 0)) (mRCons (mCall f_byte_at (mACons (mVar 0) (mACons (mVar 1) mANil))) mRNil))) (mSeq (mIfS (mBl (mBin (opEq false) (mVar 3) (mC (.int 0)))) (mRaise "BadBytes" "place" (mVar 1)) mNx) (mSeq (mWhile t_read_number_1 l_read_number_2) (mRet (mTup (mACons (mBin opSub (mBin opAdd (mBin opMul (mVar 2) (mC (.int 128))) (mVar 3)) (mC (.int 128))) (mACons (mBin opAdd (mVar 1) (mC (.int 1))) mANil)))))))
def f_read_number : Fm := mDef 2 4 b_read_number
theorem F_read_number (c : Fx P K mg) : FnM P w K mg base 5 "read_number" ["data", "place"] f_read_number := by
  refine fnM (N := ["data", "place", "found", "byte"]) (m := b_read_number) c.d_read_number sc_read_number (by decide) (fun _ _ _ _ _ _ us hl => match us, hl with | [_, _], _ => rfl) fun f cdv A outer s H E hr => ?_
  have nd := (sc_read_number).nd
  exact (mss_cons (ms_par (i := 2) (j := 3) (by rfl) nd (mr_cons me_int (mr_cons (me_fn (F_byte_at c) hr (by decide) (by rfl) takesC (ma_cons (me_var (i := 0)) (ma_cons (me_var (i := 1)) ma_nil))) mr_nil))) (mss_cons (ms_if (mt_cmp (op_eqM hr.units) os_eq (me_var (i := 3)) me_int (nomark _)) (mss_one (ms_raise c.x_BadBytes.xm (hr.mono (by decide)) (by rfl) takesC (by rfl) (me_var (i := 1)))) mss_nil) (mss_cons (ms_while owns (mt_cmp or_lt os_lt (me_var (i := 3)) (me_gint c.v_GROUP (by rfl)) (nomark _)) (mss_cons (ms_par (i := 2) (j := 1) (by rfl) nd (mr_cons (me_add (me_mul (me_var (i := 2)) (me_gint c.v_GROUP (by rfl))) (me_var (i := 3))) (mr_cons (me_add (me_var (i := 1)) me_int) mr_nil))) (mss_one (ms_set (i := 3) (me_fn (F_byte_at c) hr (by decide) (by rfl) takesC (ma_cons (me_var (i := 0)) (ma_cons (me_var (i := 1)) ma_nil))) nd)))) (mss_one (ms_ret (me_tup (ma_cons (me_sub (me_add (me_mul (me_var (i := 2)) (me_gint c.v_GROUP (by rfl))) (me_var (i := 3))) (me_gint c.v_GROUP (by rfl))) (ma_cons (me_add (me_var (i := 1)) me_int) ma_nil))))))))
theorem sc_check_of : FnScope ["data", "found", "byte"] ["data"] (defScope (tp 12)) := sc_of (by decide +kernel)
def l_check_of_1 : S → Res Out := (mSet 1 (mBin opMod (mBin opAdd (mBin opAdd (mBin opMul (mVar 1) (mC (.int 257))) (mVar 2)) (mC (.int 1))) (mC (.int 4294967291))))
def b_check_of : S → Res Out := (mSeq (mSet 1 (mC (.int 1))) (mSeq (mFor (iSeq (mVar 0)) (tgName 2) l_check_of_1) (mRet (mVar 1))))
def f_check_of : Fm := mDef 1 3 b_check_of
theorem F_check_of (c : Fx P K mg) : FnM P w K mg base 1 "check_of" ["data"] f_check_of := by
  refine fnM (N := ["data", "found", "byte"]) (m := b_check_of) c.d_check_of sc_check_of (by decide) (fun _ _ _ _ _ _ us hl => match us, hl with | [_], _ => rfl) fun f cdv A outer s H E hr => ?_
  have nd := (sc_check_of).nd
  exact (mss_cons (ms_set (i := 1) me_int nd) (mss_cons (ms_for owns (by rfl) (mi_seq (me_var (i := 0))) (mg_name nd) (mss_one (ms_set (i := 1) (me_mod (me_add (me_add (me_mul (me_var (i := 1)) (me_gint c.v_STEP (by rfl))) (me_var (i := 2))) me_int) (me_gint c.v_ROUND (by rfl))) nd))) (mss_one (ms_ret (me_var (i := 1))))))
theorem sc_check_bytes : FnScope ["check"] ["check"] (defScope (tp 13)) := sc_of (by decide +kernel)
def b_check_bytes : S → Res Out := (mRet (mTup (mACons (mBin opMod (mVar 0) (mC (.int 256))) (mACons (mBin opMod (mBin opFdiv (mVar 0) (mC (.int 256))) (mC (.int 256))) (mACons (mBin opMod (mBin opFdiv (mVar 0) (mC (.int 65536))) (mC (.int 256))) (mACons (mBin opFdiv (mVar 0) (mC (.int 16777216))) mANil))))))
def f_check_bytes : Fm := mDef 1 1 b_check_bytes
theorem F_check_bytes (c : Fx P K mg) : FnM P w K mg base 1 "check_bytes" ["check"] f_check_bytes := by
  refine fnM (N := ["check"]) (m := b_check_bytes) c.d_check_bytes sc_check_bytes (by decide) (fun _ _ _ _ _ _ us hl => match us, hl with | [_], _ => rfl) fun f cdv A outer s H E hr => ?_
  have nd := (sc_check_bytes).nd
  exact (mss_one (ms_ret (me_tup (ma_cons (me_mod (me_var (i := 0)) me_int) (ma_cons (me_mod (me_fdiv (me_var (i := 0)) me_int) me_int) (ma_cons (me_mod (me_fdiv (me_var (i := 0)) me_int) me_int) (ma_cons (me_fdiv (me_var (i := 0)) me_int) ma_nil)))))))
theorem sc_sealed : FnScope ["data"] ["data"] (defScope (tp 14)) := sc_of (by decide +kernel)
def b_sealed : S → Res Out := (mRet (mBin opAdd (mBin opAdd (mFn1 fTuple (mCall f_number_bytes (mACons (mFn1 fLen (mVar 0)) mANil))) (mCall f_check_bytes (mACons (mCall f_check_of (mACons (mVar 0) mANil)) mANil))) (mVar 0)))
def f_sealed : Fm := mDef 1 1 b_sealed
theorem F_sealed (c : Fx P K mg) : FnM P w K mg base 2 "sealed" ["data"] f_sealed := by
  refine fnM (N := ["data"]) (m := b_sealed) c.d_sealed sc_sealed (by decide) (fun _ _ _ _ _ _ us hl => match us, hl with | [_], _ => rfl) fun f cdv A outer s H E hr => ?_
  have nd := (sc_sealed).nd
  exact (mss_one (ms_ret (me_add (me_add (me_tuple (me_fn (F_number_bytes c) hr (by decide) (by rfl) takesC (ma_cons (me_len (me_var (i := 0)) (by rfl) c.g_len) ma_nil)) (by rfl) c.g_tuple) (me_fn (F_check_bytes c) hr (by decide) (by rfl) takesC (ma_cons (me_fn (F_check_of c) hr (by decide) (by rfl) takesC (ma_cons (me_var (i := 0)) ma_nil)) ma_nil))) (me_var (i := 0)))))
theorem sc_opened : FnScope ["data", "begin", "length", "place"] ["data"] (defScope (tp 15)) := sc_of (by decide +kernel)
def b_opened : S → Res Out := (mSeq (mUnp [2, 3] (mCall f_read_number (mACons (mVar 0) (mACons (mC (.int 0)) mANil)))) (mSeq (mSet 1 (mBin opAdd (mVar 3) (mC (.int 4)))) (mSeq (mIfS (mBl (mBin (opEq true) (mFn1 fLen (mVar 0)) (mBin opAdd (mVar 1) (mVar 2)))) (mRaise "BadBytes" "place" (mFn2 minI (mACons (mFn1 fLen (mVar 0)) (mACons (mBin opAdd (mVar 1) (mVar 2)) mANil)))) mNx) (mSeq (mIfS (mBl (mBin (opEq true) (mSlice (mVar 0) (mPart (mVar 3)) (mPart (mVar 1))) (mCall f_check_bytes (mACons (mCall f_check_of (mACons (mSlice (mVar 0) (mPart (mVar 1)) mNoPart) mANil)) mANil)))) (mRaise "BadBytes" "place" (mVar 3)) mNx) (mRet (mSlice (mVar 0) (mPart (mVar 1)) mNoPart))))))
def f_opened : Fm := mDef 1 4 b_opened
theorem F_opened (c : Fx P K mg) : FnM P w K mg base 6 "opened" ["data"] f_opened := by
  refine fnM (N := ["data", "begin", "length", "place"]) (m := b_opened) c.d_opened sc_opened (by decide) (fun _ _ _ _ _ _ us hl => match us, hl with | [_], _ => rfl) fun f cdv A outer s H E hr => ?_
  have nd := (sc_opened).nd
  exact (mss_cons (ms_unp (by rfl) (me_fn (F_read_number c) hr (by decide) (by rfl) takesC (ma_cons (me_var (i := 0)) (ma_cons me_int ma_nil))) (mgs_cons (i := 2) (mgs_cons (i := 3) mgs_nil nd) nd)) (mss_cons (ms_set (i := 1) (me_add (me_var (i := 3)) (me_gint c.v_CHECK (by rfl))) nd) (mss_cons (ms_if (mt_cmp (op_neM hr.units) os_eq (me_len (me_var (i := 0)) (by rfl) c.g_len) (me_add (me_var (i := 1)) (me_var (i := 2))) (nomark _)) (mss_one (ms_raise c.x_BadBytes.xm (hr.mono (by decide)) (by rfl) takesC (by rfl) (me_min2 (by rfl) (ma_cons (me_len (me_var (i := 0)) (by rfl) c.g_len) (ma_cons (me_add (me_var (i := 1)) (me_var (i := 2))) ma_nil)) (by rfl) c.g_min))) mss_nil) (mss_cons (ms_if (mt_cmp (op_neM hr.units) os_eq (me_slice (me_var (i := 0)) (mo_some (me_var (i := 3))) (mo_some (me_var (i := 1)))) (me_fn (F_check_bytes c) hr (by decide) (by rfl) takesC (ma_cons (me_fn (F_check_of c) hr (by decide) (by rfl) takesC (ma_cons (me_slice (me_var (i := 0)) (mo_some (me_var (i := 1))) mo_none) ma_nil)) ma_nil)) (nomark _)) (mss_one (ms_raise c.x_BadBytes.xm (hr.mono (by decide)) (by rfl) takesC (by rfl) (me_var (i := 3)))) mss_nil) (mss_one (ms_ret (me_slice (me_var (i := 0)) (mo_some (me_var (i := 1))) mo_none)))))))
theorem sc__law_box : FnScope ["script"] ["script"] (defScope (tp 17)) := sc_of (by decide +kernel)
def b__law_box : S → Res Out := (mRet (mAlloc (mLst (mACons (mAlloc (mFn1 fList (mSlice (mVar 0) mNoPart (mPart (mC (.int 63)))))) (mACons (mC (.int 0)) (mACons (mBin opAdd (mC (.int 4711)) (mFn1 fLen (mVar 0))) mANil))))))
def f__law_box : Fm := mDef 1 1 b__law_box
theorem F__law_box (c : Fx P K mg) : FnM P w K mg base 1 "_law_box" ["script"] f__law_box := by
  refine fnM (N := ["script"]) (m := b__law_box) c.d__law_box sc__law_box (by decide) (fun _ _ _ _ _ _ us hl => match us, hl with | [_], _ => rfl) fun f cdv A outer s H E hr => ?_
  have nd := (sc__law_box).nd
  exact (mss_one (ms_ret (me_alloc (me_lst (ma_cons (me_alloc (me_list (me_slice (me_var (i := 0)) mo_none (mo_some me_int)) (by rfl) c.g_list)) (ma_cons me_int (ma_cons (me_add me_int (me_len (me_var (i := 0)) (by rfl) c.g_len)) ma_nil)))))))
theorem sc__law_load : FnScope ["box", "cells", "first", "second", "cell", "size"] ["box"] (defScope (tp 18)) := sc_of (by decide +kernel)
def b__law_load : S → Res Out := (mSeq (mSet 1 (mBin opIx (mVar 0) (mC (.int 0)))) (mSeq (mIfS (mBl (mBin opGt (mFn1 fLen (mVar 1)) (mC (.int 0)))) (mSeq (mSet 4 (mFn1 fInt (mLm1 fPopAt (mVar 1) (mC (.int 0))))) (mSeq (mSet 5 (mIf (mBl (mBin opGe (mVar 4) (mC (.int 0)))) (mBin opMul (mC (.int 2)) (mVar 4)) (mBin opSub (mBin opMul (mFn1 fNeg (mC (.int 2))) (mVar 4)) (mC (.int 1))))) (mSeq (mIfS (mBl (mBin opGe (mVar 5) (mC (.int 1000000000000000000)))) (mRet (mVar 5)) mNx) (mSetIx (mBin opMod (mFn1 fInt (mBin opAdd (mBin opAdd (mBin opMul (mBin opIx (mVar 0) (mC (.int 2))) (mC (.int 69621))) (mBin opMul (mVar 5) (mC (.int 48271)))) (mC (.int 11)))) (mC (.int 2147483647))) (mVar 0) (mC (.int 2)))))) mNx) (mSeq (mSet 2 (mBin opMod (mFn1 fInt (mBin opAdd (mBin opMul (mBin opIx (mVar 0) (mC (.int 2))) (mC (.int 48271))) (mC (.int 17)))) (mC (.int 2147483629)))) (mSeq (mSet 3 (mBin opMod (mFn1 fInt (mBin opAdd (mBin opMul (mVar 2) (mC (.int 69621))) (mC (.int 5)))) (mC (.int 2147483587)))) (mSeq (mSetIx (mBin opMod (mFn1 fInt (mBin opAdd (mBin opMul (mVar 3) (mC (.int 40692))) (mC (.int 3)))) (mC (.int 2147483563))) (mVar 0) (mC (.int 2))) (mRet (mBin opAdd (mBin opAdd (mBin opMul (mVar 2) (mC (.int 4611686014132420609))) (mBin opMul (mVar 3) (mC (.int 2147483647)))) (mBin opIx (mVar 0) (mC (.int 2))))))))))
def f__law_load : Fm := mDef 1 6 b__law_load
theorem F__law_load (c : Fx P K mg) : FnM P w K mg base 1 "_law_load" ["box"] f__law_load := by
  refine fnM (N := ["box", "cells", "first", "second", "cell", "size"]) (m := b__law_load) c.d__law_load sc__law_load (by decide) (fun _ _ _ _ _ _ us hl => match us, hl with | [_], _ => rfl) fun f cdv A outer s H E hr => ?_
  have nd := (sc__law_load).nd
  exact (mss_cons (ms_set (i := 1) (me_ix (me_var (i := 0)) me_int) nd) (mss_cons (ms_if (mt_cmp or_gt os_gt (me_len (me_var (i := 1)) (by rfl) c.g_len) me_int (nomark _)) (mss_cons (ms_set (i := 4) (me_toInt (me_popAt (me_var (i := 1)) me_int) (by rfl) c.g_int) nd) (mss_cons (ms_set (i := 5) (me_if (mt_cmp or_ge os_ge (me_var (i := 4)) me_int (nomark _)) (me_mul me_int (me_var (i := 4))) (me_sub (me_mul (me_neg me_int) (me_var (i := 4))) me_int)) nd) (mss_cons (ms_if (mt_cmp or_ge os_ge (me_var (i := 5)) me_int (nomark _)) (mss_one (ms_ret (me_var (i := 5)))) mss_nil) (mss_one (ms_setIx (me_mod (me_toInt (me_add (me_add (me_mul (me_ix (me_var (i := 0)) me_int) me_int) (me_mul (me_var (i := 5)) me_int)) me_int) (by rfl) c.g_int) me_int) (me_var (i := 0)) me_int))))) mss_nil) (mss_cons (ms_set (i := 2) (me_mod (me_toInt (me_add (me_mul (me_ix (me_var (i := 0)) me_int) me_int) me_int) (by rfl) c.g_int) me_int) nd) (mss_cons (ms_set (i := 3) (me_mod (me_toInt (me_add (me_mul (me_var (i := 2)) me_int) me_int) (by rfl) c.g_int) me_int) nd) (mss_cons (ms_setIx (me_mod (me_toInt (me_add (me_mul (me_var (i := 3)) me_int) me_int) (by rfl) c.g_int) me_int) (me_var (i := 0)) me_int) (mss_one (ms_ret (me_add (me_add (me_mul (me_var (i := 2)) me_int) (me_mul (me_var (i := 3)) me_int)) (me_ix (me_var (i := 0)) me_int)))))))))
theorem sc__law_draw : FnScope ["box", "many", "digit"] ["box", "many"] (defScope (tp 19)) := sc_of (by decide +kernel)
def b__law_draw : S → Res Out := (mSeq (mIfS (mBl (mBin opLt (mBin opIx (mVar 0) (mC (.int 1))) (mVar 1))) (mSetIx (mCall f__law_load (mACons (mVar 0) mANil)) (mVar 0) (mC (.int 1))) mNx) (mSeq (mSet 2 (mBin opMod (mFn1 fInt (mBin opIx (mVar 0) (mC (.int 1)))) (mVar 1))) (mSeq (mSetIx (mBin opFdiv (mBin opIx (mVar 0) (mC (.int 1))) (mVar 1)) (mVar 0) (mC (.int 1))) (mRet (mVar 2)))))
def f__law_draw : Fm := mDef 2 3 b__law_draw
theorem F__law_draw (c : Fx P K mg) : FnM P w K mg base 2 "_law_draw" ["box", "many"] f__law_draw := by
  refine fnM (N := ["box", "many", "digit"]) (m := b__law_draw) c.d__law_draw sc__law_draw (by decide) (fun _ _ _ _ _ _ us hl => match us, hl with | [_, _], _ => rfl) fun f cdv A outer s H E hr => ?_
  have nd := (sc__law_draw).nd
  exact (mss_cons (ms_if (mt_cmp or_lt os_lt (me_ix (me_var (i := 0)) me_int) (me_var (i := 1)) (nomark _)) (mss_one (ms_setIx (me_fn (F__law_load c) hr (by decide) (by rfl) takesC (ma_cons (me_var (i := 0)) ma_nil)) (me_var (i := 0)) me_int)) mss_nil) (mss_cons (ms_set (i := 2) (me_mod (me_toInt (me_ix (me_var (i := 0)) me_int) (by rfl) c.g_int) (me_var (i := 1))) nd) (mss_cons (ms_setIx (me_fdiv (me_ix (me_var (i := 0)) me_int) (me_var (i := 1))) (me_var (i := 0)) me_int) (mss_one (ms_ret (me_var (i := 2)))))))
theorem sc__law_same : FnScope ["a", "b", "k"] ["a", "b"] (defScope (tp 20)) := sc_of (by decide +kernel)
def e__law_same_1 (fself : Fm) : M := (mCall fself (mACons (mBin opIx (mVar 0) (mVar 2)) (mACons (mBin opIx (mVar 1) (mVar 2)) mANil)))
def b__law_same (fself : Fm) : S → Res Out := (mSeq (mIfS (mOrT (mAndT (mTru (mFn1 (fIsi .tup) (mVar 0))) (mTru (mFn1 (fIsi .tup) (mVar 1)))) (mAndT (mTru (mFn1 (fIsi .lst) (mVar 0))) (mTru (mFn1 (fIsi .lst) (mVar 1))))) (mRet (mAndV (mBin (opEq false) (mFn1 fLen (mVar 0)) (mFn1 fLen (mVar 1))) (mFn1 fAll (mComp [2] (iRange1 (mACons (mFn1 fLen (mVar 0)) mANil)) (tgName 2) mYes (e__law_same_1 fself))))) mNx) (mSeq (mIfS (mOrT (mTru (mFn1 (fIsi .bool) (mVar 0))) (mTru (mFn1 (fIsi .bool) (mVar 1)))) (mRet (mAndV (mFn1 (fIsi .bool) (mVar 0)) (mAndV (mFn1 (fIsi .bool) (mVar 1)) (mBin (opEq false) (mVar 0) (mVar 1))))) mNx) (mSeq (mIfS (mOrT (mAndT (mTru (mFn1 (fIsi .int) (mVar 0))) (mTru (mFn1 (fIsi .int) (mVar 1)))) (mAndT (mTru (mFn1 (fIsi .str) (mVar 0))) (mTru (mFn1 (fIsi .str) (mVar 1))))) (mRet (mBin (opEq false) (mVar 0) (mVar 1))) mNx) (mRet (mAndV (mBin (opIsN false) (mVar 0) (mC .non)) (mBin (opIsN false) (mVar 1) (mC .non)))))))
def f__law_same : Nat → Fm
  | 0 => mDef 2 3 fun _ => .stuck
  | k + 1 => mDef 2 3 (b__law_same (f__law_same k))
theorem F__law_same (c : Fx P K mg) : ∀ k : Nat, FnM P w K mg base (1 + k) "_law_same" ["a", "b"] (f__law_same k)
  | 0 => fnM (N := ["a", "b", "k"]) (k := 0) c.d__law_same sc__law_same (by decide) (fun _ _ _ _ _ _ us hl => match us, hl with | [_, _], _ => rfl) fun f cdv A outer s H E hr => mss_stuck
  | k + 1 => by
    have Fself := F__law_same c k
    refine fnM (N := ["a", "b", "k"]) (k := 1 + k) (m := b__law_same (f__law_same k)) c.d__law_same sc__law_same (by decide) (fun _ _ _ _ _ _ us hl => match us, hl with | [_, _], _ => rfl) fun f cdv A outer s H E hr => ?_
    have nd := (sc__law_same).nd
    exact (mss_cons (ms_if (mt_w (mw_or (mt_w (mw_and (mt_val (me_isi (T := .tup) (me_var (i := 0)) (by rfl) c.g_isinstance (by rfl) c.g_tuple (by decide +kernel))) (mw_and1 (mt_val (me_isi (T := .tup) (me_var (i := 1)) (by rfl) c.g_isinstance (by rfl) c.g_tuple (by decide +kernel)))))) (mw_or1 (mt_w (mw_and (mt_val (me_isi (T := .lst) (me_var (i := 0)) (by rfl) c.g_isinstance (by rfl) c.g_list (by decide +kernel))) (mw_and1 (mt_val (me_isi (T := .lst) (me_var (i := 1)) (by rfl) c.g_isinstance (by rfl) c.g_list (by decide +kernel))))))))) (mss_one (ms_ret (me_and (me_eq hr.units (me_len (me_var (i := 0)) (by rfl) c.g_len) (me_len (me_var (i := 1)) (by rfl) c.g_len)) (me_one (me_all (by rfl) (me_comp (by rfl) nd (mi_range1 (ma_cons (me_len (me_var (i := 0)) (by rfl) c.g_len) ma_nil) (by rfl) c.g_range) (blk_of (own := [("k", 2)]) (by rfl)) mgk_name (by decide) (fun _ _ _ _ _ => (mg_name nd).pg) (fun _ _ _ _ _ => mts_nil) (fun _ _ _ _ _ => (me_fn Fself hr (by omega) (by rfl) takesB (ma_cons (me_ix (me_var (i := 0)) (me_var (i := 2))) (ma_cons (me_ix (me_var (i := 1)) (me_var (i := 2))) ma_nil))))) (by rfl) c.g_all))))) mss_nil) (mss_cons (ms_if (mt_w (mw_or (mt_val (me_isi (T := .bool) (me_var (i := 0)) (by rfl) c.g_isinstance (by rfl) c.g_bool (by decide +kernel))) (mw_or1 (mt_val (me_isi (T := .bool) (me_var (i := 1)) (by rfl) c.g_isinstance (by rfl) c.g_bool (by decide +kernel)))))) (mss_one (ms_ret (me_and (me_isi (T := .bool) (me_var (i := 0)) (by rfl) c.g_isinstance (by rfl) c.g_bool (by decide +kernel)) (me_and (me_isi (T := .bool) (me_var (i := 1)) (by rfl) c.g_isinstance (by rfl) c.g_bool (by decide +kernel)) (me_one (me_eq hr.units (me_var (i := 0)) (me_var (i := 1)))))))) mss_nil) (mss_cons (ms_if (mt_w (mw_or (mt_w (mw_and (mt_val (me_isi (T := .int) (me_var (i := 0)) (by rfl) c.g_isinstance (by rfl) c.g_int (by decide +kernel))) (mw_and1 (mt_val (me_isi (T := .int) (me_var (i := 1)) (by rfl) c.g_isinstance (by rfl) c.g_int (by decide +kernel)))))) (mw_or1 (mt_w (mw_and (mt_val (me_isi (T := .str) (me_var (i := 0)) (by rfl) c.g_isinstance (by rfl) c.g_str (by decide +kernel))) (mw_and1 (mt_val (me_isi (T := .str) (me_var (i := 1)) (by rfl) c.g_isinstance (by rfl) c.g_str (by decide +kernel))))))))) (mss_one (ms_ret (me_eq hr.units (me_var (i := 0)) (me_var (i := 1))))) mss_nil) (mss_one (ms_ret (me_and (me_isN (me_var (i := 0))) (me_one (me_isN (me_var (i := 1))))))))))
theorem sc__law_number : FnScope ["number", "groups"] ["number"] (defScope (tp 21)) := sc_of (by decide +kernel)
def t__law_number_1 : S → Res Bool := (mBl (mBin opGt (mVar 0) (mC (.int 127))))
def l__law_number_2 : S → Res Out := (mSeq (mSet 0 (mBin opFdiv (mVar 0) (mC (.int 128)))) (mSet 1 (mBin opAdd (mLst (mACons (mBin opSub (mVar 0) (mBin opMul (mBin opFdiv (mVar 0) (mC (.int 128))) (mC (.int 128)))) mANil)) (mVar 1))))
def b__law_number : S → Res Out := (mSeq (mSet 1 (mLst (mACons (mBin opSub (mVar 0) (mBin opMul (mBin opFdiv (mVar 0) (mC (.int 128))) (mC (.int 128)))) mANil))) (mSeq (mWhile t__law_number_1 l__law_number_2) (mRet (mBin opAdd (mSlice (mVar 1) mNoPart (mPart (mFn1 fNeg (mC (.int 1))))) (mLst (mACons (mBin opAdd (mBin opIx (mVar 1) (mFn1 fNeg (mC (.int 1)))) (mC (.int 128))) mANil))))))
def f__law_number : Fm := mDef 1 2 b__law_number
theorem F__law_number (c : Fx P K mg) : FnM P w K mg base 1 "_law_number" ["number"] f__law_number := by
  refine fnM (N := ["number", "groups"]) (m := b__law_number) c.d__law_number sc__law_number (by decide) (fun _ _ _ _ _ _ us hl => match us, hl with | [_], _ => rfl) fun f cdv A outer s H E hr => ?_
  have nd := (sc__law_number).nd
  exact (mss_cons (ms_set (i := 1) (me_lst (ma_cons (me_sub (me_var (i := 0)) (me_mul (me_fdiv (me_var (i := 0)) me_int) me_int)) ma_nil)) nd) (mss_cons (ms_while owns (mt_cmp or_gt os_gt (me_var (i := 0)) me_int (nomark _)) (mss_cons (ms_set (i := 0) (me_fdiv (me_var (i := 0)) me_int) nd) (mss_one (ms_set (i := 1) (me_add (me_lst (ma_cons (me_sub (me_var (i := 0)) (me_mul (me_fdiv (me_var (i := 0)) me_int) me_int)) ma_nil)) (me_var (i := 1))) nd)))) (mss_one (ms_ret (me_add (me_slice (me_var (i := 1)) mo_none (mo_some (me_neg me_int))) (me_lst (ma_cons (me_add (me_ix (me_var (i := 1)) (me_neg me_int)) me_int) ma_nil)))))))
theorem sc__law_check : FnScope ["data", "got", "byte"] ["data"] (defScope (tp 22)) := sc_of (by decide +kernel)
def l__law_check_1 : S → Res Out := (mSeq (mSet 1 (mBin opAdd (mBin opAdd (mBin opMul (mC (.int 257)) (mVar 1)) (mVar 2)) (mC (.int 1)))) (mSet 1 (mBin opSub (mVar 1) (mBin opMul (mBin opFdiv (mVar 1) (mC (.int 4294967291))) (mC (.int 4294967291))))))
def b__law_check : S → Res Out := (mSeq (mSet 1 (mC (.int 1))) (mSeq (mFor (iSeq (mVar 0)) (tgName 2) l__law_check_1) (mRet (mVar 1))))
def f__law_check : Fm := mDef 1 3 b__law_check
theorem F__law_check (c : Fx P K mg) : FnM P w K mg base 1 "_law_check" ["data"] f__law_check := by
  refine fnM (N := ["data", "got", "byte"]) (m := b__law_check) c.d__law_check sc__law_check (by decide) (fun _ _ _ _ _ _ us hl => match us, hl with | [_], _ => rfl) fun f cdv A outer s H E hr => ?_
  have nd := (sc__law_check).nd
  exact (mss_cons (ms_set (i := 1) me_int nd) (mss_cons (ms_for owns (by rfl) (mi_seq (me_var (i := 0))) (mg_name nd) (mss_cons (ms_set (i := 1) (me_add (me_add (me_mul me_int (me_var (i := 1))) (me_var (i := 2))) me_int) nd) (mss_one (ms_set (i := 1) (me_sub (me_var (i := 1)) (me_mul (me_fdiv (me_var (i := 1)) me_int) me_int)) nd)))) (mss_one (ms_ret (me_var (i := 1))))))
theorem sc__law_seal : FnScope ["data", "check", "four", "k"] ["data"] (defScope (tp 23)) := sc_of (by decide +kernel)
def e__law_seal_1 : M := (mBin opSub (mBin opFdiv (mVar 1) (mBin opShl (mC (.int 1)) (mBin opMul (mC (.int 8)) (mVar 3)))) (mBin opMul (mBin opFdiv (mVar 1) (mBin opShl (mC (.int 1)) (mBin opAdd (mBin opMul (mC (.int 8)) (mVar 3)) (mC (.int 8))))) (mC (.int 256))))
def b__law_seal : S → Res Out := (mSeq (mSet 1 (mCall f__law_check (mACons (mVar 0) mANil))) (mSeq (mSet 2 (mComp [3] (iRange1 (mACons (mC (.int 4)) mANil)) (tgName 3) mYes e__law_seal_1)) (mRet (mFn1 fTuple (mBin opAdd (mBin opAdd (mCall f__law_number (mACons (mFn1 fLen (mVar 0)) mANil)) (mVar 2)) (mFn1 fList (mVar 0)))))))
def f__law_seal : Fm := mDef 1 4 b__law_seal
theorem F__law_seal (c : Fx P K mg) : FnM P w K mg base 2 "_law_seal" ["data"] f__law_seal := by
  refine fnM (N := ["data", "check", "four", "k"]) (m := b__law_seal) c.d__law_seal sc__law_seal (by decide) (fun _ _ _ _ _ _ us hl => match us, hl with | [_], _ => rfl) fun f cdv A outer s H E hr => ?_
  have nd := (sc__law_seal).nd
  exact (mss_cons (ms_set (i := 1) (me_fn (F__law_check c) hr (by decide) (by rfl) takesC (ma_cons (me_var (i := 0)) ma_nil)) nd) (mss_cons (ms_setComp (i := 2) (by rfl) nd (mi_range1 (ma_cons me_int ma_nil) (by rfl) c.g_range) (blk_of (own := [("k", 3)]) (by rfl)) mgk_name (by decide) (fun _ _ _ _ _ => (mg_name nd).pg) (fun _ _ _ _ _ => mts_nil) (fun _ _ _ _ _ => (me_sub (me_fdiv (me_var (i := 1)) (me_shl me_int (me_mul me_int (me_var (i := 3))))) (me_mul (me_fdiv (me_var (i := 1)) (me_shl me_int (me_add (me_mul me_int (me_var (i := 3))) me_int))) me_int)))) (mss_one (ms_ret (me_tuple (me_add (me_add (me_fn (F__law_number c) hr (by decide) (by rfl) takesC (ma_cons (me_len (me_var (i := 0)) (by rfl) c.g_len) ma_nil)) (me_var (i := 2))) (me_list (me_var (i := 0)) (by rfl) c.g_list)) (by rfl) c.g_tuple)))))
theorem sc__law_told : FnScope ["data", "error", "inside", "bad"] ["data"] (defScope (tp 24)) := sc_of (by decide +kernel)
def b__law_told : S → Res Out := (mSeq (mUnp [2, 3] (mTup (mACons (mC .non) (mACons (mC .non) mANil)))) (mSeq (mTryX "BadBytes" 1 3 "place" (mSet 2 (mCall f_opened (mACons (mVar 0) mANil)))) (mRet (mTup (mACons (mVar 2) (mACons (mVar 3) mANil))))))
def f__law_told : Fm := mDef 1 4 b__law_told
theorem F__law_told (c : Fx P K mg) : FnM P w K mg base 7 "_law_told" ["data"] f__law_told := by
  refine fnM (N := ["data", "error", "inside", "bad"]) (m := b__law_told) c.d__law_told sc__law_told (by decide) (fun _ _ _ _ _ _ us hl => match us, hl with | [_], _ => rfl) fun f cdv A outer s H E hr => ?_
  have nd := (sc__law_told).nd
  exact (mss_cons (ms_unp (by rfl) (me_tup (ma_cons me_non (ma_cons me_non ma_nil))) (mgs_cons (i := 2) (mgs_cons (i := 3) mgs_nil nd) nd)) (mss_cons (ms_tryX (i := 1) (j := 3) c.x_BadBytes nd takesC (by rfl) (fun W pn xe tk ow => (mss_one (ms_set (i := 2) (me_fn (F_opened c) hr (by decide) (by rfl) tk (ma_cons (me_var (i := 0)) ma_nil)) nd)))) (mss_one (ms_ret (me_tup (ma_cons (me_var (i := 2)) (ma_cons (me_var (i := 3)) ma_nil)))))))
theorem sc__law_length : FnScope ["data", "got", "k"] ["data"] (defScope (tp 25)) := sc_of (by decide +kernel)
def l__law_length_1 : S → Res Out := (mSeq (mIfS (mAndT (mBl (mBin (opEq false) (mVar 2) (mC (.int 0)))) (mBl (mBin (opEq false) (mBin opIx (mVar 0) (mC (.int 0))) (mC (.int 0))))) (mRet (mTup (mACons (mC .non) (mACons (mC (.int 0)) mANil)))) mNx) (mSeq (mIfS (mBl (mBin opGt (mBin opIx (mVar 0) (mVar 2)) (mC (.int 127)))) (mRet (mTup (mACons (mBin opSub (mBin opAdd (mBin opMul (mVar 1) (mC (.int 128))) (mBin opIx (mVar 0) (mVar 2))) (mC (.int 128))) (mACons (mBin opAdd (mVar 2) (mC (.int 1))) mANil)))) mNx) (mSet 1 (mBin opAdd (mBin opMul (mVar 1) (mC (.int 128))) (mBin opIx (mVar 0) (mVar 2))))))
def b__law_length : S → Res Out := (mSeq (mSet 1 (mC (.int 0))) (mSeq (mFor (iRange1 (mACons (mFn1 fLen (mVar 0)) mANil)) (tgName 2) l__law_length_1) (mRet (mTup (mACons (mC .non) (mACons (mFn1 fLen (mVar 0)) mANil))))))
def f__law_length : Fm := mDef 1 3 b__law_length
theorem F__law_length (c : Fx P K mg) : FnM P w K mg base 1 "_law_length" ["data"] f__law_length := by
  refine fnM (N := ["data", "got", "k"]) (m := b__law_length) c.d__law_length sc__law_length (by decide) (fun _ _ _ _ _ _ us hl => match us, hl with | [_], _ => rfl) fun f cdv A outer s H E hr => ?_
  have nd := (sc__law_length).nd
  exact (mss_cons (ms_set (i := 1) me_int nd) (mss_cons (ms_for owns (by rfl) (mi_range1 (ma_cons (me_len (me_var (i := 0)) (by rfl) c.g_len) ma_nil) (by rfl) c.g_range) (mg_name nd) (mss_cons (ms_if (mt_w (mw_and (mt_cmp (op_eqM hr.units) os_eq (me_var (i := 2)) me_int (nomark _)) (mw_and1 (mt_cmp (op_eqM hr.units) os_eq (me_ix (me_var (i := 0)) me_int) me_int (nomark _))))) (mss_one (ms_ret (me_tup (ma_cons me_non (ma_cons me_int ma_nil))))) mss_nil) (mss_cons (ms_if (mt_cmp or_gt os_gt (me_ix (me_var (i := 0)) (me_var (i := 2))) me_int (nomark _)) (mss_one (ms_ret (me_tup (ma_cons (me_sub (me_add (me_mul (me_var (i := 1)) me_int) (me_ix (me_var (i := 0)) (me_var (i := 2)))) me_int) (ma_cons (me_add (me_var (i := 2)) me_int) ma_nil))))) mss_nil) (mss_one (ms_set (i := 1) (me_add (me_mul (me_var (i := 1)) me_int) (me_ix (me_var (i := 0)) (me_var (i := 2)))) nd))))) (mss_one (ms_ret (me_tup (ma_cons me_non (ma_cons (me_len (me_var (i := 0)) (by rfl) c.g_len) ma_nil)))))))
theorem sc__law_place : FnScope ["data", "length", "place"] ["data"] (defScope (tp 26)) := sc_of (by decide +kernel)
def b__law_place : S → Res Out := (mSeq (mUnp [1, 2] (mCall f__law_length (mACons (mVar 0) mANil))) (mSeq (mIfS (mBl (mBin (opIsN false) (mVar 1) (mC .non))) (mRet (mVar 2)) mNx) (mSeq (mIfS (mBl (mBin (opEq true) (mFn1 fLen (mVar 0)) (mBin opAdd (mBin opAdd (mVar 2) (mC (.int 4))) (mVar 1)))) (mRet (mFn2 minI (mACons (mFn1 fLen (mVar 0)) (mACons (mBin opAdd (mBin opAdd (mVar 2) (mC (.int 4))) (mVar 1)) mANil)))) mNx) (mRet (mIf (mBl (mBin (opEq false) (mCall f__law_seal (mACons (mSlice (mVar 0) (mPart (mBin opAdd (mVar 2) (mC (.int 4)))) mNoPart) mANil)) (mVar 0))) (mC .non) (mVar 2))))))
def f__law_place : Fm := mDef 1 3 b__law_place
theorem F__law_place (c : Fx P K mg) : FnM P w K mg base 3 "_law_place" ["data"] f__law_place := by
  refine fnM (N := ["data", "length", "place"]) (m := b__law_place) c.d__law_place sc__law_place (by decide) (fun _ _ _ _ _ _ us hl => match us, hl with | [_], _ => rfl) fun f cdv A outer s H E hr => ?_
  have nd := (sc__law_place).nd
  exact (mss_cons (ms_unp (by rfl) (me_fn (F__law_length c) hr (by decide) (by rfl) takesC (ma_cons (me_var (i := 0)) ma_nil)) (mgs_cons (i := 1) (mgs_cons (i := 2) mgs_nil nd) nd)) (mss_cons (ms_if (mt_cmp op_isN os_isN (me_var (i := 1)) me_non (nomark _)) (mss_one (ms_ret (me_var (i := 2)))) mss_nil) (mss_cons (ms_if (mt_cmp (op_neM hr.units) os_eq (me_len (me_var (i := 0)) (by rfl) c.g_len) (me_add (me_add (me_var (i := 2)) me_int) (me_var (i := 1))) (nomark _)) (mss_one (ms_ret (me_min2 (by rfl) (ma_cons (me_len (me_var (i := 0)) (by rfl) c.g_len) (ma_cons (me_add (me_add (me_var (i := 2)) me_int) (me_var (i := 1))) ma_nil)) (by rfl) c.g_min))) mss_nil) (mss_one (ms_ret (me_if (mt_cmp (op_eqM hr.units) os_eq (me_fn (F__law_seal c) hr (by decide) (by rfl) takesC (ma_cons (me_slice (me_var (i := 0)) (mo_some (me_add (me_var (i := 2)) me_int)) mo_none) ma_nil)) (me_var (i := 0)) (nomark _)) me_non (me_var (i := 2))))))))
theorem sc_law : FnScope ["script", "box", "turn", "lean", "data", "place", "k", "step", "more", "drawn", "due", "whole", "check", "hurt", "byte"] ["script"] (defScope (tp 27)) := sc_of (by decide +kernel)
def e_law_1 : M := (mCall f__law_draw (mACons (mVar 1) (mACons (mC (.int 256)) mANil)))
def e_law_2 : M := (mCall f__law_draw (mACons (mVar 1) (mACons (mC (.int 256)) mANil)))
def l_law_3 : S → Res Out := (mSeq (mSet 13 (mBin opAdd (mBin opAdd (mSlice (mVar 11) mNoPart (mPart (mVar 6))) (mTup (mACons (mBin opIx (mVar 11) (mBin opAdd (mVar 6) (mC (.int 1)))) (mACons (mBin opIx (mVar 11) (mVar 6)) mANil)))) (mSlice (mVar 11) (mPart (mBin opAdd (mVar 6) (mC (.int 2)))) mNoPart))) (mIfS (mAndT (mBl (mBin (opEq true) (mVar 13) (mVar 11))) (mNotT (mTru (mCall (f__law_same 6) (mACons (mCall f__law_told (mACons (mVar 13) mANil)) (mACons (mTup (mACons (mC .non) (mACons (mVar 5) mANil))) mANil)))))) (mRet (mC (.bl false))) mNx))
def l_law_4 : S → Res Out := (mSeq (mParN [6, 14] (mRCons (mCall f__law_draw (mACons (mVar 1) (mACons (mFn1 fLen (mVar 11)) mANil))) (mRCons (mCall f__law_draw (mACons (mVar 1) (mACons (mC (.int 256)) mANil))) mRNil))) (mSeq (mSet 13 (mBin opAdd (mBin opAdd (mSlice (mVar 11) mNoPart (mPart (mVar 6))) (mTup (mACons (mVar 14) mANil))) (mSlice (mVar 11) (mPart (mBin opAdd (mVar 6) (mC (.int 1)))) mNoPart))) (mIfS (mAndT (mBl (mBin (opEq true) (mVar 13) (mVar 11))) (mOrT (mBl (mBin (opIsN true) (mBin opIx (mCall f__law_told (mACons (mVar 13) mANil)) (mC (.int 0))) (mC .non))) (mNotT (mTru (mCall (f__law_same 6) (mACons (mBin opIx (mCall f__law_told (mACons (mVar 13) mANil)) (mC (.int 1))) (mACons (mCall f__law_place (mACons (mVar 13) mANil)) mANil))))))) (mRet (mC (.bl false))) mNx)))
def l_law_5 : S → Res Out := (mIfS (mOrT (mNotT (mTru (mCall (f__law_same 6) (mACons (mCall f__law_told (mACons (mSlice (mVar 11) mNoPart (mPart (mVar 6))) mANil)) (mACons (mTup (mACons (mC .non) (mACons (mCall f__law_place (mACons (mSlice (mVar 11) mNoPart (mPart (mVar 6))) mANil)) mANil))) mANil))))) (mBl (mBin (opIsN false) (mCall f__law_place (mACons (mSlice (mVar 11) mNoPart (mPart (mVar 6))) mANil)) (mC .non)))) (mRet (mC (.bl false))) mNx)
def e_law_6 : M := (mBin opIx (mTup (mACons (mCall f__law_draw (mACons (mVar 1) (mACons (mC (.int 256)) mANil))) (mACons (mC (.int 255)) (mACons (mCall f__law_draw (mACons (mVar 1) (mACons (mC (.int 2)) mANil))) mANil)))) (mVar 3))
def l_law_7 : S → Res Out := (mSeq (mSet 3 (mCall f__law_draw (mACons (mVar 1) (mACons (mC (.int 3)) mANil)))) (mSeq (mSet 4 (mFn1 fTuple (mComp [6] (iRange1 (mACons (mCall f__law_draw (mACons (mVar 1) (mACons (mC (.int 15)) mANil))) mANil)) (tgName 6) mYes e_law_6))) (mSeq (mSet 4 (mIf (mBl (mBin (opEq false) (mVar 2) (mC (.int 0)))) (mBin opMul (mVar 4) (mBin opAdd (mC (.int 1)) (mBin opMul (mC (.int 13)) (mCall f__law_draw (mACons (mVar 1) (mACons (mC (.int 2)) mANil)))))) (mVar 4))) (mSeq (mParN [11, 12] (mRCons (mCall f__law_seal (mACons (mVar 4) mANil)) (mRCons (mCall f__law_check (mACons (mVar 4) mANil)) mRNil))) (mSeq (mSet 5 (mBin opSub (mBin opSub (mFn1 fLen (mVar 11)) (mFn1 fLen (mVar 4))) (mC (.int 4)))) (mSeq (mIfS (mOrT (mNotT (mTru (mCall (f__law_same 6) (mACons (mTup (mACons (mCall f_check_of (mACons (mVar 4) mANil)) (mACons (mCall f_check_bytes (mACons (mVar 12) mANil)) (mACons (mCall f_sealed (mACons (mVar 4) mANil)) mANil)))) (mACons (mTup (mACons (mVar 12) (mACons (mSlice (mVar 11) (mPart (mVar 5)) (mPart (mBin opAdd (mVar 5) (mC (.int 4))))) (mACons (mVar 11) mANil)))) mANil))))) (mNotT (mTru (mCall (f__law_same 6) (mACons (mCall f__law_told (mACons (mVar 11) mANil)) (mACons (mTup (mACons (mVar 4) (mACons (mC .non) mANil))) mANil)))))) (mRet (mC (.bl false))) mNx) (mSeq (mFor (iRange1 (mACons (mFn1 fLen (mVar 11)) mANil)) (tgName 6) l_law_5) (mSeq (mFor (iRange1 (mACons (mC (.int 14)) mANil)) (tgName 7) l_law_4) (mSeq (mFor (iRange2 (mACons (mBin opAdd (mVar 5) (mC (.int 4))) (mACons (mBin opSub (mFn1 fLen (mVar 11)) (mC (.int 1))) mANil))) (tgName 6) l_law_3) (mSeq (mSet 8 (mFn1 fTuple (mComp [6] (iRange1 (mACons (mBin opAdd (mC (.int 1)) (mCall f__law_draw (mACons (mVar 1) (mACons (mC (.int 3)) mANil)))) mANil)) (tgName 6) mYes e_law_2))) (mSeq (mIfS (mOrT (mNotT (mTru (mCall (f__law_same 6) (mACons (mCall f__law_told (mACons (mBin opAdd (mVar 11) (mVar 8)) mANil)) (mACons (mTup (mACons (mC .non) (mACons (mFn1 fLen (mVar 11)) mANil))) mANil))))) (mNotT (mTru (mCall (f__law_same 6) (mACons (mCall f__law_told (mACons (mBin opAdd (mVar 11) (mVar 11)) mANil)) (mACons (mTup (mACons (mC .non) (mACons (mFn1 fLen (mVar 11)) mANil))) mANil)))))) (mRet (mC (.bl false))) mNx) (mSeq (mSet 9 (mFn1 fTuple (mComp [6] (iRange1 (mACons (mCall f__law_draw (mACons (mVar 1) (mACons (mC (.int 9)) mANil))) mANil)) (tgName 6) mYes e_law_1))) (mSeq (mSet 10 (mCall f__law_place (mACons (mVar 9) mANil))) (mIfS (mNotT (mTru (mCall (f__law_same 6) (mACons (mBin opIx (mCall f__law_told (mACons (mVar 9) mANil)) (mC (.int 1))) (mACons (mVar 10) mANil))))) (mRet (mC (.bl false))) mNx))))))))))))))
def b_law : S → Res Out := (mSeq (mSet 1 (mCall f__law_box (mACons (mVar 0) mANil))) (mSeq (mFor (iRange1 (mACons (mC (.int 4)) mANil)) (tgName 2) l_law_7) (mRet (mAndV (mBin (opEq false) (mCall f_check_of (mACons (mTup mANil) mANil)) (mC (.int 1))) (mBin (opEq false) (mCall f_sealed (mACons (mTup (mACons (mC (.int 1)) mANil)) mANil)) (mTup (mACons (mC (.int 129)) (mACons (mC (.int 3)) (mACons (mC (.int 1)) (mACons (mC (.int 0)) (mACons (mC (.int 0)) (mACons (mC (.int 1)) mANil))))))))))))
def f_law : Fm := mDef 1 15 b_law
theorem F_law (c : Fx P K mg) : FnM P w K mg base 8 "law" ["script"] f_law := by
  refine fnM (N := ["script", "box", "turn", "lean", "data", "place", "k", "step", "more", "drawn", "due", "whole", "check", "hurt", "byte"]) (m := b_law) c.d_law sc_law (by decide) (fun _ _ _ _ _ _ us hl => match us, hl with | [_], _ => rfl) fun f cdv A outer s H E hr => ?_
  have nd := (sc_law).nd
  exact (mss_cons (ms_set (i := 1) (me_fn (F__law_box c) hr (by decide) (by rfl) takesC (ma_cons (me_var (i := 0)) ma_nil)) nd) (mss_cons (ms_for owns (by rfl) (mi_range1 (ma_cons me_int ma_nil) (by rfl) c.g_range) (mg_name nd) (mss_cons (ms_set (i := 3) (me_fn (F__law_draw c) hr (by decide) (by rfl) takesC (ma_cons (me_var (i := 1)) (ma_cons me_int ma_nil))) nd) (mss_cons (ms_set (i := 4) (me_tuple (me_comp (by rfl) nd (mi_range1 (ma_cons (me_fn (F__law_draw c) hr (by decide) (by rfl) takesC (ma_cons (me_var (i := 1)) (ma_cons me_int ma_nil))) ma_nil) (by rfl) c.g_range) (blk_of (own := [("k", 6)]) (by rfl)) mgk_name (by decide) (fun _ _ _ _ _ => (mg_name nd).pg) (fun _ _ _ _ _ => mts_nil) (fun _ _ _ _ _ => (me_ix (me_tup (ma_cons (me_fn (F__law_draw c) hr (by decide) (by rfl) takesB (ma_cons (me_var (i := 1)) (ma_cons me_int ma_nil))) (ma_cons me_int (ma_cons (me_fn (F__law_draw c) hr (by decide) (by rfl) takesB (ma_cons (me_var (i := 1)) (ma_cons me_int ma_nil))) ma_nil)))) (me_var (i := 3))))) (by rfl) c.g_tuple) nd) (mss_cons (ms_set (i := 4) (me_if (mt_cmp (op_eqM hr.units) os_eq (me_var (i := 2)) me_int (nomark _)) (me_mul (me_var (i := 4)) (me_add me_int (me_mul me_int (me_fn (F__law_draw c) hr (by decide) (by rfl) takesC (ma_cons (me_var (i := 1)) (ma_cons me_int ma_nil)))))) (me_var (i := 4))) nd) (mss_cons (ms_par (i := 11) (j := 12) (by rfl) nd (mr_cons (me_fn (F__law_seal c) hr (by decide) (by rfl) takesC (ma_cons (me_var (i := 4)) ma_nil)) (mr_cons (me_fn (F__law_check c) hr (by decide) (by rfl) takesC (ma_cons (me_var (i := 4)) ma_nil)) mr_nil))) (mss_cons (ms_set (i := 5) (me_sub (me_sub (me_len (me_var (i := 11)) (by rfl) c.g_len) (me_len (me_var (i := 4)) (by rfl) c.g_len)) me_int) nd) (mss_cons (ms_if (mt_w (mw_or (mt_not (mt_val (me_fn (F__law_same c 6) hr (by decide) (by rfl) takesC (ma_cons (me_tup (ma_cons (me_fn (F_check_of c) hr (by decide) (by rfl) takesC (ma_cons (me_var (i := 4)) ma_nil)) (ma_cons (me_fn (F_check_bytes c) hr (by decide) (by rfl) takesC (ma_cons (me_var (i := 12)) ma_nil)) (ma_cons (me_fn (F_sealed c) hr (by decide) (by rfl) takesC (ma_cons (me_var (i := 4)) ma_nil)) ma_nil)))) (ma_cons (me_tup (ma_cons (me_var (i := 12)) (ma_cons (me_slice (me_var (i := 11)) (mo_some (me_var (i := 5))) (mo_some (me_add (me_var (i := 5)) me_int))) (ma_cons (me_var (i := 11)) ma_nil)))) ma_nil))))) (mw_or1 (mt_not (mt_val (me_fn (F__law_same c 6) hr (by decide) (by rfl) takesC (ma_cons (me_fn (F__law_told c) hr (by decide) (by rfl) takesC (ma_cons (me_var (i := 11)) ma_nil)) (ma_cons (me_tup (ma_cons (me_var (i := 4)) (ma_cons me_non ma_nil))) ma_nil)))))))) (mss_one (ms_ret me_bl)) mss_nil) (mss_cons (ms_for owns (by rfl) (mi_range1 (ma_cons (me_len (me_var (i := 11)) (by rfl) c.g_len) ma_nil) (by rfl) c.g_range) (mg_name nd) (mss_one (ms_if (mt_w (mw_or (mt_not (mt_val (me_fn (F__law_same c 6) hr (by decide) (by rfl) takesC (ma_cons (me_fn (F__law_told c) hr (by decide) (by rfl) takesC (ma_cons (me_slice (me_var (i := 11)) mo_none (mo_some (me_var (i := 6)))) ma_nil)) (ma_cons (me_tup (ma_cons me_non (ma_cons (me_fn (F__law_place c) hr (by decide) (by rfl) takesC (ma_cons (me_slice (me_var (i := 11)) mo_none (mo_some (me_var (i := 6)))) ma_nil)) ma_nil))) ma_nil))))) (mw_or1 (mt_cmp op_isN os_isN (me_fn (F__law_place c) hr (by decide) (by rfl) takesC (ma_cons (me_slice (me_var (i := 11)) mo_none (mo_some (me_var (i := 6)))) ma_nil)) me_non (nomark _))))) (mss_one (ms_ret me_bl)) mss_nil))) (mss_cons (ms_for owns (by rfl) (mi_range1 (ma_cons me_int ma_nil) (by rfl) c.g_range) (mg_name nd) (mss_cons (ms_par (i := 6) (j := 14) (by rfl) nd (mr_cons (me_fn (F__law_draw c) hr (by decide) (by rfl) takesC (ma_cons (me_var (i := 1)) (ma_cons (me_len (me_var (i := 11)) (by rfl) c.g_len) ma_nil))) (mr_cons (me_fn (F__law_draw c) hr (by decide) (by rfl) takesC (ma_cons (me_var (i := 1)) (ma_cons me_int ma_nil))) mr_nil))) (mss_cons (ms_set (i := 13) (me_add (me_add (me_slice (me_var (i := 11)) mo_none (mo_some (me_var (i := 6)))) (me_tup (ma_cons (me_var (i := 14)) ma_nil))) (me_slice (me_var (i := 11)) (mo_some (me_add (me_var (i := 6)) me_int)) mo_none)) nd) (mss_one (ms_if (mt_w (mw_and (mt_cmp (op_neM hr.units) os_eq (me_var (i := 13)) (me_var (i := 11)) (nomark _)) (mw_and1 (mt_w (mw_or (mt_cmp op_notN os_notN (me_ix (me_fn (F__law_told c) hr (by decide) (by rfl) takesC (ma_cons (me_var (i := 13)) ma_nil)) me_int) me_non (nomark _)) (mw_or1 (mt_not (mt_val (me_fn (F__law_same c 6) hr (by decide) (by rfl) takesC (ma_cons (me_ix (me_fn (F__law_told c) hr (by decide) (by rfl) takesC (ma_cons (me_var (i := 13)) ma_nil)) me_int) (ma_cons (me_fn (F__law_place c) hr (by decide) (by rfl) takesC (ma_cons (me_var (i := 13)) ma_nil)) ma_nil))))))))))) (mss_one (ms_ret me_bl)) mss_nil))))) (mss_cons (ms_for owns (by rfl) (mi_range2 (ma_cons (me_add (me_var (i := 5)) me_int) (ma_cons (me_sub (me_len (me_var (i := 11)) (by rfl) c.g_len) me_int) ma_nil)) (by rfl) c.g_range) (mg_name nd) (mss_cons (ms_set (i := 13) (me_add (me_add (me_slice (me_var (i := 11)) mo_none (mo_some (me_var (i := 6)))) (me_tup (ma_cons (me_ix (me_var (i := 11)) (me_add (me_var (i := 6)) me_int)) (ma_cons (me_ix (me_var (i := 11)) (me_var (i := 6))) ma_nil)))) (me_slice (me_var (i := 11)) (mo_some (me_add (me_var (i := 6)) me_int)) mo_none)) nd) (mss_one (ms_if (mt_w (mw_and (mt_cmp (op_neM hr.units) os_eq (me_var (i := 13)) (me_var (i := 11)) (nomark _)) (mw_and1 (mt_not (mt_val (me_fn (F__law_same c 6) hr (by decide) (by rfl) takesC (ma_cons (me_fn (F__law_told c) hr (by decide) (by rfl) takesC (ma_cons (me_var (i := 13)) ma_nil)) (ma_cons (me_tup (ma_cons me_non (ma_cons (me_var (i := 5)) ma_nil))) ma_nil)))))))) (mss_one (ms_ret me_bl)) mss_nil)))) (mss_cons (ms_set (i := 8) (me_tuple (me_comp (by rfl) nd (mi_range1 (ma_cons (me_add me_int (me_fn (F__law_draw c) hr (by decide) (by rfl) takesC (ma_cons (me_var (i := 1)) (ma_cons me_int ma_nil)))) ma_nil) (by rfl) c.g_range) (blk_of (own := [("k", 6)]) (by rfl)) mgk_name (by decide) (fun _ _ _ _ _ => (mg_name nd).pg) (fun _ _ _ _ _ => mts_nil) (fun _ _ _ _ _ => (me_fn (F__law_draw c) hr (by decide) (by rfl) takesB (ma_cons (me_var (i := 1)) (ma_cons me_int ma_nil))))) (by rfl) c.g_tuple) nd) (mss_cons (ms_if (mt_w (mw_or (mt_not (mt_val (me_fn (F__law_same c 6) hr (by decide) (by rfl) takesC (ma_cons (me_fn (F__law_told c) hr (by decide) (by rfl) takesC (ma_cons (me_add (me_var (i := 11)) (me_var (i := 8))) ma_nil)) (ma_cons (me_tup (ma_cons me_non (ma_cons (me_len (me_var (i := 11)) (by rfl) c.g_len) ma_nil))) ma_nil))))) (mw_or1 (mt_not (mt_val (me_fn (F__law_same c 6) hr (by decide) (by rfl) takesC (ma_cons (me_fn (F__law_told c) hr (by decide) (by rfl) takesC (ma_cons (me_add (me_var (i := 11)) (me_var (i := 11))) ma_nil)) (ma_cons (me_tup (ma_cons me_non (ma_cons (me_len (me_var (i := 11)) (by rfl) c.g_len) ma_nil))) ma_nil)))))))) (mss_one (ms_ret me_bl)) mss_nil) (mss_cons (ms_set (i := 9) (me_tuple (me_comp (by rfl) nd (mi_range1 (ma_cons (me_fn (F__law_draw c) hr (by decide) (by rfl) takesC (ma_cons (me_var (i := 1)) (ma_cons me_int ma_nil))) ma_nil) (by rfl) c.g_range) (blk_of (own := [("k", 6)]) (by rfl)) mgk_name (by decide) (fun _ _ _ _ _ => (mg_name nd).pg) (fun _ _ _ _ _ => mts_nil) (fun _ _ _ _ _ => (me_fn (F__law_draw c) hr (by decide) (by rfl) takesB (ma_cons (me_var (i := 1)) (ma_cons me_int ma_nil))))) (by rfl) c.g_tuple) nd) (mss_cons (ms_set (i := 10) (me_fn (F__law_place c) hr (by decide) (by rfl) takesC (ma_cons (me_var (i := 9)) ma_nil)) nd) (mss_one (ms_if (mt_not (mt_val (me_fn (F__law_same c 6) hr (by decide) (by rfl) takesC (ma_cons (me_ix (me_fn (F__law_told c) hr (by decide) (by rfl) takesC (ma_cons (me_var (i := 9)) ma_nil)) me_int) (ma_cons (me_var (i := 10)) ma_nil))))) (mss_one (ms_ret me_bl)) mss_nil)))))))))))))))) (mss_one (ms_ret (me_and (me_eq hr.units (me_fn (F_check_of c) hr (by decide) (by rfl) takesC (ma_cons (me_tup ma_nil) ma_nil)) me_int) (me_one (me_eq hr.units (me_fn (F_sealed c) hr (by decide) (by rfl) takesC (ma_cons (me_tup (ma_cons me_int ma_nil)) ma_nil)) (me_tup (ma_cons me_int (ma_cons me_int (ma_cons me_int (ma_cons me_int (ma_cons me_int (ma_cons me_int ma_nil))))))))))))))
end
end K19
namespace K19
open PySem PySem.Spec PyProof.Rows L2 MI
abbrev I (l : List Int) : List D := IL l
def chkP (l : List Int) (f : Int) : Int := l.foldl (fun f b => (f * 257 + b + 1) % 4294967291) f
theorem check_loop (L : D) (gl : List MObj) : ∀ (l : List Int) (f : Int) (x : Slot), ∃ x', forGo (tgName 2) l_check_of_1 (I l) ⟨[.val L, .val (.int f), x], gl⟩ = .ok .nx ⟨[.val L, .val (.int (chkP l f)), x'], gl⟩
  | [], f, x => ⟨x, rfl⟩
  | b :: l, f, x => by
    obtain ⟨x', h⟩ := check_loop L gl l ((f * 257 + b + 1) % 4294967291) (.val (.int b))
    refine ⟨x', ?_⟩
    simp [forGo_cons, l_check_of_1, as_d, q_mulR, q_mod]
    exact h
theorem check_of_spec (l : List Int) (gl : List MObj) : f_check_of [.tup (I l)] gl = .ok (.int (chkP l 1)) gl := by
  obtain ⟨x', h⟩ := check_loop (.tup (I l)) gl l 1 .none
  simp [f_check_of, mDef, List.replicate, b_check_of, as_d, h]
def four (c : Int) : List Int := [c % 256, c / 256 % 256, c / 65536 % 256, c / 16777216]
theorem check_bytes_spec (c : Int) (gl : List MObj) : f_check_bytes [.int c] gl = .ok (.tup (I (four c))) gl := by
  simp [f_check_bytes, mDef, b_check_bytes, q_mod, q_fdiv, four]
def numP (n : Int) : List Int := if n < 128 then [128 + n] else [n / 128, 128 + n % 128]
theorem number_bytes_spec (n : Int) (gl : List MObj) (h0 : 0 ≤ n) (h1 : n < 16384) : f_number_bytes [.int n] gl = .ok (.lst (I (numP n))) gl := by
  by_cases h : n < 128
  · have e1 : n / 128 = 0 := by omega
    have e2 : n % 128 = n := by omega
    have w : mWhile t_number_bytes_1 l_number_bytes_2 ⟨[.val (.int 0), .own (.lst [.int (128 + n)])], gl⟩ = .ok .nx ⟨[.val (.int 0), .own (.lst [.int (128 + n)])], gl⟩ := by
      refine mWhile_eq (n := 1) ?_ (by simp)
      simp [whileGo, t_number_bytes_1]
    simp [f_number_bytes, mDef, b_number_bytes, q_mod, q_fdiv, as_d, as_new, e1, e2, w, numP, h, opRev, asInt, asTup, asLst]
  · have e1 : 0 < n / 128 := by omega
    have e2 : n / 128 / 128 = 0 := by omega
    have e3 : n / 128 % 128 = n / 128 := by omega
    have w : mWhile t_number_bytes_1 l_number_bytes_2 ⟨[.val (.int (n / 128)), .own (.lst [.int (128 + n % 128)])], gl⟩ = .ok .nx ⟨[.val (.int 0), .own (.lst [.int (128 + n % 128), .int (n / 128)])], gl⟩ := by
      refine mWhile_eq (n := 2) ?_ (by simp)
      simp [whileGo, t_number_bytes_1, l_number_bytes_2, e1, e2, e3, q_mod, q_fdiv, as_d, locOf, fAppend]
    simp [f_number_bytes, mDef, b_number_bytes, q_mod, q_fdiv, as_d, as_new, e1, e2, w, numP, h, opRev, asInt, asTup, asLst]
theorem law_number_spec (n : Int) (gl : List MObj) (h0 : 0 ≤ n) (h1 : n < 16384) : f__law_number [.int n] gl = .ok (.lst (I (numP n))) gl := by
  by_cases h : n < 128
  · have e1 : n / 128 = 0 := by omega
    have w : mWhile t__law_number_1 l__law_number_2 ⟨[.val (.int n), .own (.lst [.int n])], gl⟩ = .ok .nx ⟨[.val (.int n), .own (.lst [.int n])], gl⟩ := by
      refine mWhile_eq (n := 1) ?_ (by simp)
      simp [whileGo, t__law_number_1]
      omega
    simp [f__law_number, mDef, b__law_number, q_mod, q_fdiv, q_mulR, as_d, as_new, e1, w, numP, h, asInt, asTup, asLst, opSl, cut, HT.sIx, q_ixL, atI, ixN, q_addL]
    omega
  · have e1 : n / 128 / 128 = 0 := by omega
    have e4 : n - n / 128 * 128 = n % 128 := by omega
    have e5 : ¬ n ≤ 127 := by omega
    have e6 : n / 128 ≤ 127 := by omega
    have w : mWhile t__law_number_1 l__law_number_2 ⟨[.val (.int n), .own (.lst [.int (n % 128)])], gl⟩ = .ok .nx ⟨[.val (.int (n / 128)), .own (.lst [.int (n / 128), .int (n % 128)])], gl⟩ := by
      refine mWhile_eq (n := 2) ?_ (by simp)
      have e7 : 127 < n := by omega
      have e8 : ¬ 127 < n / 128 := by omega
      simp [whileGo, t__law_number_1, l__law_number_2, e1, e4, e7, e8, q_mod, q_fdiv, q_mulR, as_d, as_new, asLst, q_addL]
    simp [f__law_number, mDef, b__law_number, q_mod, q_fdiv, q_mulR, as_d, as_new, e1, e4, w, numP, h, asInt, asTup, asLst, opSl, cut, HT.sIx, q_ixL, atI, ixN, q_addL]
    omega
theorem chk_lo (l : List Int) (f : Int) (h : 0 ≤ f) (h1 : f < 4294967291) : 0 ≤ chkP l f ∧ chkP l f < 4294967291 := by
  induction l generalizing f with
  | nil => exact ⟨h, h1⟩
  | cons b l ih => exact ih _ (Int.emod_nonneg _ (by omega)) (Int.emod_lt_of_pos _ (by omega))
theorem lgP : (Int.natAbs 4294967291).log2 < 9000 := by decide +kernel
theorem law_check_step (L : D) (gl : List MObj) (f b : Int) (x : Slot) : l__law_check_1 ⟨[.val L, .val (.int f), .val (.int b)], gl⟩ = .ok .nx ⟨[.val L, .val (.int ((f * 257 + b + 1) % 4294967291)), .val (.int b)], gl⟩ := by
  have e : 257 * f + b + 1 - (257 * f + b + 1) / 4294967291 * 4294967291 = (f * 257 + b + 1) % 4294967291 := by omega
  simp [l__law_check_1, as_d, q_mulL, q_mulR, q_mod, q_fdivW _ lgP, e]
theorem law_check_loop (L : D) (gl : List MObj) : ∀ (l : List Int) (f : Int) (x : Slot), ∃ x', forGo (tgName 2) l__law_check_1 (I l) ⟨[.val L, .val (.int f), x], gl⟩ = .ok .nx ⟨[.val L, .val (.int (chkP l f)), x'], gl⟩
  | [], f, x => ⟨x, rfl⟩
  | b :: l, f, x => by
    obtain ⟨x', h⟩ := law_check_loop L gl l ((f * 257 + b + 1) % 4294967291) (.val (.int b))
    refine ⟨x', ?_⟩
    simp [forGo_cons, law_check_step L gl f b x, as_d]
    exact h
theorem law_check_spec (l : List Int) (gl : List MObj) : f__law_check [.tup (I l)] gl = .ok (.int (chkP l 1)) gl := by
  obtain ⟨x', h⟩ := law_check_loop (.tup (I l)) gl l 1 .none
  simp [f__law_check, mDef, List.replicate, b__law_check, as_d, h]
def sealP (l : List Int) : List Int := numP l.length ++ four (chkP l 1) ++ l
theorem len_num (n : Int) : (numP n).length ≤ 2 := by unfold numP; split <;> simp
theorem len_four (c : Int) : (four c).length = 4 := rfl
theorem sealed_spec (l : List Int) (gl : List MObj) (h : l.length ≤ 1000) : f_sealed [.tup (I l)] gl = .ok (.tup (I (sealP l))) gl := by
  have s1 := number_bytes_spec l.length gl (by omega) (by omega)
  have s2 := check_of_spec l gl
  have s3 := check_bytes_spec (chkP l 1) gl
  have z1 := len_num l.length
  have a1 : ∀ s, opAdd s (.d (.tup (I (numP l.length)))) (.d (.tup (I (four (chkP l 1))))) = .ok (.d (.tup (I (numP l.length ++ four (chkP l 1))))) s := fun s => q_addI (by rw [len_four]; omega)
  have a2 : ∀ s, opAdd s (.d (.tup (I (numP l.length ++ four (chkP l 1))))) (.d (.tup (I l))) = .ok (.d (.tup (I (sealP l)))) s := fun s => q_addI (by rw [List.length_append, len_four]; omega)
  simp [-List.map_append, f_sealed, mDef, List.replicate, b_sealed, s1, s2, s3, fTuple, asItems, asTup, asLst, a1, a2]
theorem shifts (c : Int) (h : 0 ≤ c) (h1 : c < 4294967291) : [c / 1 - c / 256 * 256, c / 256 - c / 65536 * 256, c / 65536 - c / 16777216 * 256, c / 16777216 - c / 4294967296 * 256] = four c := by
  unfold four
  simp
  omega
theorem seal_elt (L : D) (c k : Int) (x : Slot) (gl : List MObj) (h0 : 0 ≤ k) (h4 : k < 4) : e__law_seal_1 ⟨[.val L, .val (.int c), x, .val (.int k)], gl⟩ = .ok (.d (.int (c / (2 ^ (8 * k).toNat) - c / (2 ^ (8 * k + 8).toNat) * 256))) ⟨[.val L, .val (.int c), x, .val (.int k)], gl⟩ := by
  have e : k = 0 ∨ k = 1 ∨ k = 2 ∨ k = 3 := by omega
  have g1 : (Int.natAbs 4294967296).log2 < 9000 := by decide +kernel
  rcases e with rfl | rfl | rfl | rfl <;> simp [e__law_seal_1, q_mulL, q_mulR, q_shl, q_fdiv, q_fdivW _ g1]
theorem law_seal_spec (l : List Int) (gl : List MObj) (h : l.length ≤ 1000) : f__law_seal [.tup (I l)] gl = .ok (.tup (I (sealP l))) gl := by
  have s1 := law_number_spec l.length gl (by omega) (by omega)
  have s2 := law_check_spec l gl
  have z1 := len_num l.length
  obtain ⟨c0, c1⟩ := chk_lo l 1 (by omega) (by omega)
  have sf := shifts _ c0 c1
  have k0 := fun gl x => seal_elt (.tup (I l)) (chkP l 1) 0 x gl (by omega) (by omega)
  have k1 := fun gl x => seal_elt (.tup (I l)) (chkP l 1) 1 x gl (by omega) (by omega)
  have k2 := fun gl x => seal_elt (.tup (I l)) (chkP l 1) 2 x gl (by omega) (by omega)
  have k3 := fun gl x => seal_elt (.tup (I l)) (chkP l 1) 3 x gl (by omega) (by omega)
  simp at k0 k1 k2 k3
  have a1 : ∀ x y z, opAdd ⟨[x, y, .own (.lst (I (four (chkP l 1)))), z], gl⟩ (.d (.lst (I (numP l.length)))) (.at 2) = .ok (.new (.lst (I (numP l.length ++ four (chkP l 1))))) ⟨[x, y, .own (.lst (I (four (chkP l 1)))), z], gl⟩ := fun x y z => q_addIL (by rw [len_four]; omega) rfl rfl
  have a2 : ∀ s, opAdd s (.d (.lst (I (numP l.length ++ four (chkP l 1))))) (.new (.lst (I l))) = .ok (.new (.lst (I (sealP l)))) s := fun s => q_addIL (by rw [List.length_append, len_four]; omega) rfl rfl
  have c : mComp [3] (iRange1 (mACons (mC (.int 4)) mANil)) (tgName 3) mYes e__law_seal_1 ⟨[.val (.tup (I l)), .val (.int (chkP l 1)), .none, .none], gl⟩ = .ok (.new (.lst (I (four (chkP l 1))))) ⟨[.val (.tup (I l)), .val (.int (chkP l 1)), .none, .none], gl⟩ := by
    rw [← sf]
    simp [-sz0, rng1_ok, rangeD, compGo, noOwn, wipeS, wipeE, restE, as_d, k0, k1, k2, k3]
  simp [-ap_Comp, -List.map_append, f__law_seal, mDef, List.replicate, b__law_seal, s1, s2, as_d, as_new, c, a1, a2]
/-! ### reading -/
def rdN : List Int → Int → Nat → Option (Int × Nat)
  | [], _, _ => none
  | b :: r, f, p => if 128 ≤ b then some (f * 128 + b - 128, p + 1) else rdN r (f * 128 + b) (p + 1)
theorem byte_at_ok (d : List Int) (p : Int) (b : Int) (gl : List MObj) (h0 : 0 ≤ p) (h : d[p.toNat]? = some b) : f_byte_at [.tup (I d), .int p] gl = .ok (.int b) gl := by
  have hl : p.toNat < d.length := (List.getElem?_eq_some_iff.mp h).1
  have hp : ¬ (d.length : Int) ≤ p := by omega
  have ix : ∀ s, opIx s (.d (.tup (I d))) (.d (.int p)) = .ok (.d (.int b)) s := fun s => q_ixT (atI_il h0 h)
  simp [f_byte_at, mDef, b_byte_at, hp, ix]
theorem byte_at_exc (d : List Int) (p : Int) (gl : List MObj) (h : (d.length : Int) ≤ p) (hd : d.length ≤ 1000) : f_byte_at [.tup (I d), .int p] gl = .exc "BadBytes" (.tup [.str "place", .int d.length]) gl := by
  have h2 : d.length ≤ 1000000 := by omega
  simp [f_byte_at, mDef, b_byte_at, h, h2]
theorem rd_loop (d : List Int) (gl : List MObj) (hd : d.length ≤ 1000) : ∀ (r pre : List Int) (b f : Int), d = pre ++ b :: r →
    match rdN (b :: r) f pre.length with
    | some (n, q) => ∃ N f' b', whileGo t_read_number_1 l_read_number_2 N ⟨[.val (.tup (I d)), .val (.int pre.length), .val (.int f), .val (.int b)], gl⟩ = .ok .nx ⟨[.val (.tup (I d)), .val (.int ((q : Int) - 1)), .val (.int f'), .val (.int b')], gl⟩ ∧ f' * 128 + b' - 128 = n
    | none => ∃ N e, whileGo t_read_number_1 l_read_number_2 N ⟨[.val (.tup (I d)), .val (.int pre.length), .val (.int f), .val (.int b)], gl⟩ = .exc "BadBytes" (.tup [.str "place", .int d.length]) ⟨e, gl⟩
  | r, pre, b, f, hpre => by
    by_cases h : 128 ≤ b
    · have hb : ¬ b < 128 := by omega
      simp only [rdN, h, if_true]
      refine ⟨1, f, b, ?_, rfl⟩
      simp [whileGo, t_read_number_1, hb]
    · have hb : b < 128 := by omega
      simp only [rdN, h, if_false]
      cases r with
      | nil =>
        simp only [rdN]
        have hl : (d.length : Int) ≤ (pre.length : Int) + 1 := by rw [hpre]; simp
        have e1 := byte_at_exc d ((pre.length : Int) + 1) gl hl hd
        refine ⟨1, [.val (.tup (I d)), .val (.int (pre.length + 1)), .val (.int (f * 128 + b)), .val (.int b)], ?_⟩
        simp [whileGo, t_read_number_1, l_read_number_2, hb, q_mulR, as_d, e1]
      | cons c r =>
        have e1 := byte_at_ok d ((pre.length : Int) + 1) c gl (by omega) (by
          have : ((pre.length : Int) + 1).toNat = pre.length + 1 := by omega
          rw [this, hpre]
          simp)
        have ih := rd_loop d gl hd r (pre ++ [b]) c (f * 128 + b) (by rw [hpre]; simp)
        have el : (((pre ++ [b]).length : Nat) : Int) = (pre.length : Int) + 1 := by simp
        have el' : (pre ++ [b]).length = pre.length + 1 := by simp
        have st : ∀ N, whileGo t_read_number_1 l_read_number_2 (N + 1) ⟨[.val (.tup (I d)), .val (.int pre.length), .val (.int f), .val (.int b)], gl⟩ = whileGo t_read_number_1 l_read_number_2 N ⟨[.val (.tup (I d)), .val (.int ((pre.length : Int) + 1)), .val (.int (f * 128 + b)), .val (.int c)], gl⟩ := fun N => by
          have lb : l_read_number_2 ⟨[.val (.tup (I d)), .val (.int pre.length), .val (.int f), .val (.int b)], gl⟩ = .ok .nx ⟨[.val (.tup (I d)), .val (.int ((pre.length : Int) + 1)), .val (.int (f * 128 + b)), .val (.int c)], gl⟩ := by
            simp [l_read_number_2, q_mulR, as_d, e1]
          conv => lhs; unfold whileGo
          simp [t_read_number_1, hb, lb]
        rw [el, el'] at ih
        cases q : rdN (c :: r) (f * 128 + b) (pre.length + 1) with
        | none =>
          rw [q] at ih
          obtain ⟨N, e, h⟩ := ih
          exact ⟨N + 1, e, by rw [st]; exact h⟩
        | some nq =>
          rw [q] at ih
          obtain ⟨N, f', b', h1, h2⟩ := ih
          exact ⟨N + 1, f', b', by rw [st]; exact h1, h2⟩
/-- read_number at the beginning -/
def rdP (d : List Int) : Sum (Int × Nat) Int := match d with
  | [] => .inr 0
  | b :: _ => if b = 0 then .inr 0 else match rdN d 0 0 with
    | some r => .inl r
    | none => .inr d.length
theorem read_number_spec (d : List Int) (gl : List MObj) (hd : d.length ≤ 1000) : f_read_number [.tup (I d), .int 0] gl = (match rdP d with
    | .inl (n, q) => .ok (.tup [.int n, .int q]) gl
    | .inr p => .exc "BadBytes" (.tup [.str "place", .int p]) gl) := by
  by_cases hn : d = []
  · subst hn
    have e1 := byte_at_exc [] 0 gl (by simp) (by simp)
    simp at e1
    simp [f_read_number, mDef, List.replicate, b_read_number, rdP, e1]
  · obtain ⟨b, r, hdr⟩ : ∃ b r, d = b :: r := by
      cases d with
      | nil => exact absurd rfl hn
      | cons b r => exact ⟨b, r, rfl⟩
    have e1 := byte_at_ok d 0 b gl (by omega) (by rw [hdr]; rfl)
    have er : rdP d = if b = 0 then .inr 0 else match rdN d 0 0 with
      | some r => .inl r
      | none => .inr d.length := by rw [hdr]; rfl
    rw [er]
    by_cases hb : b = 0
    · subst hb
      simp [f_read_number, mDef, List.replicate, b_read_number, e1, as_d]
    · simp only [hb, if_false]
      have hl := rd_loop d gl hd r [] b 0 hdr
      simp only [List.length_nil] at hl
      rw [← hdr] at hl
      cases q : rdN d 0 0 with
      | none =>
        rw [q] at hl
        obtain ⟨N, e, h⟩ := hl
        have w := mWhile_eq h (by simp)
        simp at w
        simp [f_read_number, mDef, List.replicate, b_read_number, e1, as_d, hb, w]
      | some nq =>
        obtain ⟨n, q'⟩ := nq
        rw [q] at hl
        obtain ⟨N, f', b', h1, h2⟩ := hl
        have w := mWhile_eq h1 (by simp)
        simp at w
        simp [f_read_number, mDef, List.replicate, b_read_number, e1, as_d, hb, w, q_mulR, h2]
theorem rdN_facts : ∀ (l : List Int) (f : Int) (p : Nat) (n : Int) (q : Nat), 0 ≤ f → (∀ b ∈ l, 0 ≤ b) → rdN l f p = some (n, q) → 0 ≤ n ∧ p + 1 ≤ q ∧ q ≤ p + l.length
  | [], _, _, _, _, _, _, h => by cases h
  | b :: l, f, p, n, q, hf, hb, h => by
    have b0 := hb b List.mem_cons_self
    unfold rdN at h
    split at h
    · cases h
      simp only [List.length_cons]
      omega
    · obtain ⟨h1, h2, h3⟩ := rdN_facts l _ _ n q (by omega) (fun c m => hb c (List.mem_cons_of_mem _ m)) h
      simp only [List.length_cons]
      omega
theorem rdP_facts (d : List Int) (n : Int) (q : Nat) (hb : ∀ b ∈ d, 0 ≤ b) (h : rdP d = .inl (n, q)) : 0 ≤ n ∧ 1 ≤ q ∧ q ≤ d.length ∧ rdN d 0 0 = some (n, q) ∧ d.head? ≠ some 0 := by
  unfold rdP at h
  cases d with
  | nil => cases h
  | cons b r =>
    simp only at h
    split at h
    · cases h
    · rename_i hb0
      cases e : rdN (b :: r) 0 0 with
      | none => rw [e] at h; cases h
      | some z =>
        rw [e] at h
        cases h
        obtain ⟨h1, h2, h3⟩ := rdN_facts _ _ _ _ _ (by omega) hb e
        exact ⟨h1, by omega, by omega, rfl, fun z => hb0 (by simpa using z)⟩
theorem rdP_inr (d : List Int) (p : Int) (h : rdP d = .inr p) : 0 ≤ p ∧ p ≤ d.length := by
  unfold rdP at h
  cases d with
  | nil => cases h; simp
  | cons b r =>
    simp only at h
    split at h
    · cases h; simp; omega
    · cases e : rdN (b :: r) 0 0 with
      | none => rw [e] at h; cases h; simp; omega
      | some z => rw [e] at h; cases h
def openP (d : List Int) : Sum (List Int) Int := match rdP d with
  | .inr p => .inr p
  | .inl (n, q) => if (d.length : Int) = q + 4 + n then (if (d.drop q).take 4 = four (chkP (d.drop (q + 4)) 1) then .inl (d.drop (q + 4)) else .inr q) else .inr (minI d.length (q + 4 + n))
theorem opened_spec (d : List Int) (gl : List MObj) (hd : d.length ≤ 1000) (hb : ∀ b ∈ d, 0 ≤ b) : f_opened [.tup (I d)] gl = (match openP d with
    | .inl t => .ok (.tup (I t)) gl
    | .inr p => .exc "BadBytes" (.tup [.str "place", .int p]) gl) := by
  have r := read_number_spec d gl hd
  unfold openP
  cases e : rdP d with
  | inr p =>
    rw [e] at r
    simp only at r
    simp [f_opened, mDef, List.replicate, b_opened, r]
  | inl z =>
    obtain ⟨n, q⟩ := z
    rw [e] at r
    simp only at r
    obtain ⟨h1, h2, h3, _⟩ := rdP_facts d n q hb e
    simp only
    by_cases hl : (d.length : Int) = q + 4 + n
    · have hq : q + 4 ≤ d.length := by omega
      have c1 : cut d (some (q : Int)) (some ((q : Int) + 4)) = (d.drop q).take 4 := by
        have := cut_lohi (xs := d) (k := q) (m := q + 4) (by omega) hq
        rw [show ((q + 4 : Nat) : Int) = (q : Int) + 4 by omega] at this
        rw [this]
        congr 1
        omega
      have c2 : cut d (some ((q : Int) + 4)) none = d.drop (q + 4) := by
        have := cut_lo (xs := d) (k := q + 4) hq
        rw [show ((q + 4 : Nat) : Int) = (q : Int) + 4 by omega] at this
        exact this
      have s1 : ∀ s, opSl (some (q : Int)) (some ((q : Int) + 4)) s (.d (.tup (I d))) = .ok (.d (.tup (I ((d.drop q).take 4)))) s := fun s => by rw [q_slT, c1]
      have s2 : ∀ s, opSl (some ((q : Int) + 4)) none s (.d (.tup (I d))) = .ok (.d (.tup (I (d.drop (q + 4))))) s := fun s => by rw [q_slT, c2]
      have k1 := check_of_spec (d.drop (q + 4)) gl
      have k2 := check_bytes_spec (chkP (d.drop (q + 4)) 1) gl
      have qe : ∀ s, opEq true s (.d (.tup (I ((d.drop q).take 4)))) (.d (.tup (I (four (chkP (d.drop (q + 4)) 1))))) = .ok (.d (.bl (decide ((d.drop q).take 4 = four (chkP (d.drop (q + 4)) 1)) != true))) s := fun s => q_eqT
      have hq2 : q ≤ 1000000 := by omega
      simp only [hl, if_true]
      by_cases hc : (d.drop q).take 4 = four (chkP (d.drop (q + 4)) 1)
      · simp only [hc, if_true]
        simp [-List.map_take, -List.map_drop, f_opened, mDef, List.replicate, b_opened, r, as_d, hl, s1, s2, k1, k2, asInt, qe, hc]
      · simp only [hc, if_false]
        simp [-List.map_take, -List.map_drop, f_opened, mDef, List.replicate, b_opened, r, as_d, hl, s1, s2, k1, k2, asInt, qe, hc, hq2]
    · simp only [hl, if_false]
      have hm : (minI d.length (q + 4 + n)).natAbs ≤ 1000000 := by unfold minI; split <;> omega
      simp [f_opened, mDef, List.replicate, b_opened, r, as_d, hl, hm]
theorem told_spec (d : List Int) (gl : List MObj) (hd : d.length ≤ 1000) (hb : ∀ b ∈ d, 0 ≤ b) : f__law_told [.tup (I d)] gl = (match openP d with
    | .inl t => .ok (.tup [.tup (I t), .non]) gl
    | .inr p => .ok (.tup [.non, .int p]) gl) := by
  have o := opened_spec d gl hd hb
  cases e : openP d with
  | inl t =>
    rw [e] at o
    simp only at o
    simp [f__law_told, mDef, List.replicate, b__law_told, as_d, o]
  | inr p =>
    rw [e] at o
    simp only at o
    simp [f__law_told, mDef, List.replicate, b__law_told, as_d, o]
theorem length_step (d : List Int) (gl : List MObj) (k : Nat) (b f : Int) (hk : d[k]? = some b) (h0 : ¬ (k = 0 ∧ b = 0)) :
    l__law_length_1 ⟨[.val (.tup (I d)), .val (.int f), .val (.int k)], gl⟩ = if 128 ≤ b then .ok (.rt (.tup [.int (f * 128 + b - 128), .int ((k : Int) + 1)])) ⟨[.val (.tup (I d)), .val (.int f), .val (.int k)], gl⟩
      else .ok .nx ⟨[.val (.tup (I d)), .val (.int (f * 128 + b)), .val (.int k)], gl⟩ := by
  have ix : ∀ s, opIx s (.d (.tup (I d))) (.d (.int k)) = .ok (.d (.int b)) s := fun s => q_ixT (atI_il (by omega) (by simpa using hk))
  by_cases hk0 : k = 0
  · subst hk0
    have hb : ¬ b = 0 := fun z => h0 ⟨rfl, z⟩
    simp only [Int.natCast_zero] at ix ⊢
    by_cases h : 128 ≤ b
    · have h' : 127 < b := by omega
      simp [l__law_length_1, as_d, ix, q_mulR, h, h', hb]
    · have h' : ¬ 127 < b := by omega
      simp [l__law_length_1, as_d, ix, q_mulR, h, h', hb]
  · have hk1 : ¬ (k : Int) = 0 := by omega
    by_cases h : 128 ≤ b
    · have h' : 127 < b := by omega
      simp [l__law_length_1, as_d, ix, q_mulR, h, h', hk0]
    · have h' : ¬ 127 < b := by omega
      simp [l__law_length_1, as_d, ix, q_mulR, h, h', hk0]
theorem length_loop (d : List Int) (gl : List MObj) : ∀ (r pre : List Int) (f : Int) (x : Slot), d = pre ++ r → (pre = [] → r.head? ≠ some 0) →
    match rdN r f pre.length with
    | some (n, q) => ∃ e, forGo (tgName 2) l__law_length_1 (rangeD pre.length r.length) ⟨[.val (.tup (I d)), .val (.int f), x], gl⟩ = .ok (.rt (.tup [.int n, .int q])) ⟨e, gl⟩
    | none => ∃ e, forGo (tgName 2) l__law_length_1 (rangeD pre.length r.length) ⟨[.val (.tup (I d)), .val (.int f), x], gl⟩ = .ok .nx ⟨.val (.tup (I d)) :: e, gl⟩
  | [], pre, f, x, h, _ => ⟨[.val (.int f), x], rfl⟩
  | b :: r, pre, f, x, h, h0 => by
    have hk : d[pre.length]? = some b := by rw [h]; simp
    have st := length_step d gl pre.length b f hk (fun ⟨z1, z2⟩ => h0 (List.eq_nil_of_length_eq_zero z1) (by rw [z2]; rfl))
    unfold rdN
    by_cases hb : 128 ≤ b
    · rw [if_pos hb] at st ⊢
      refine ⟨[.val (.tup (I d)), .val (.int f), .val (.int pre.length)], ?_⟩
      rw [List.length_cons, rangeD, forGo_cons, ap_tgName, as_d (by simp)]
      simp only [List.set_cons_succ, List.set_cons_zero, st]
      rfl
    · rw [if_neg hb] at st ⊢
      have ih := length_loop d gl r (pre ++ [b]) (f * 128 + b) (.val (.int pre.length)) (by rw [h]; simp) (fun z => by simp at z)
      have el : (pre ++ [b]).length = pre.length + 1 := by simp
      rw [el] at ih
      have e1 : ∀ y, forGo (tgName 2) l__law_length_1 (rangeD pre.length (b :: r).length) ⟨[.val (.tup (I d)), .val (.int f), x], gl⟩ = y ↔ forGo (tgName 2) l__law_length_1 (rangeD ((pre.length + 1 : Nat) : Int) r.length) ⟨[.val (.tup (I d)), .val (.int (f * 128 + b)), .val (.int pre.length)], gl⟩ = y := fun y => by
        rw [List.length_cons, rangeD, forGo_cons, ap_tgName, as_d (by simp)]
        simp only [List.set_cons_succ, List.set_cons_zero, st]
        rfl
      cases q : rdN r (f * 128 + b) (pre.length + 1) with
      | none => rw [q] at ih; obtain ⟨e, he⟩ := ih; exact ⟨e, (e1 _).mpr he⟩
      | some z => rw [q] at ih; obtain ⟨e, he⟩ := ih; exact ⟨e, (e1 _).mpr he⟩
theorem length_spec (d : List Int) (gl : List MObj) (hd : d.length ≤ 1000) : f__law_length [.tup (I d)] gl = (match rdP d with
    | .inl (n, q) => .ok (.tup [.int n, .int q]) gl
    | .inr p => .ok (.tup [.non, .int p]) gl) := by
  have hz : d.length ≤ 1000000 := by omega
  by_cases hn : d = []
  · subst hn
    simp [f__law_length, mDef, List.replicate, b__law_length, as_d, rng1_ok, rangeD, rdP]
  · obtain ⟨b, r, hdr⟩ : ∃ b r, d = b :: r := by
      cases d with
      | nil => exact absurd rfl hn
      | cons b r => exact ⟨b, r, rfl⟩
    have er : rdP d = if b = 0 then .inr 0 else match rdN d 0 0 with
      | some r => .inl r
      | none => .inr d.length := by rw [hdr]; rfl
    rw [er]
    by_cases hb : b = 0
    · have ix : ∀ s, opIx s (.d (.tup (I d))) (.d (.int 0)) = .ok (.d (.int 0)) s := fun s => q_ixT (atI_il (by omega) (by rw [hdr, hb]; rfl))
      have e2 : rangeD 0 d.length = .int 0 :: rangeD 1 r.length := by rw [hdr]; rfl
      rw [if_pos hb]
      have st : l__law_length_1 ⟨[.val (.tup (I d)), .val (.int 0), .val (.int 0)], gl⟩ = .ok (.rt (.tup [.non, .int 0])) ⟨[.val (.tup (I d)), .val (.int 0), .val (.int 0)], gl⟩ := by
        simp [l__law_length_1, as_d, ix]
      simp [f__law_length, mDef, List.replicate, b__law_length, as_d, rng1_nat, e2, hz, forGo_cons, st]
    · rw [if_neg hb]
      have hl := length_loop d gl d [] 0 .none rfl (fun _ => by rw [hdr]; simpa using hb)
      simp only [List.length_nil] at hl
      cases q : rdN d 0 0 with
      | none =>
        rw [q] at hl
        obtain ⟨e, h⟩ := hl
        simp at h
        simp [f__law_length, mDef, List.replicate, b__law_length, as_d, rng1_nat, hz, h]
      | some z =>
        rw [q] at hl
        obtain ⟨e, h⟩ := hl
        simp at h
        simp [f__law_length, mDef, List.replicate, b__law_length, as_d, rng1_nat, hz, h]
theorem rdN_low : ∀ (l : List Int) (f : Int) (p : Nat) (n : Int) (q : Nat), 0 ≤ f → (∀ b ∈ l, 0 ≤ b) → rdN l f p = some (n, q) → f * 128 ≤ n
  | [], _, _, _, _, _, _, h => by cases h
  | b :: l, f, p, n, q, hf, hb, h => by
    have b0 := hb b List.mem_cons_self
    unfold rdN at h
    split at h
    · cases h
      omega
    · have := rdN_low l _ _ n q (by omega) (fun c m => hb c (List.mem_cons_of_mem _ m)) h
      omega
theorem num_take (d : List Int) (n : Int) (q : Nat) (hb : ∀ b ∈ d, 0 ≤ b ∧ b < 256) (h : rdN d 0 0 = some (n, q)) (h0 : d.head? ≠ some 0) (hn : n ≤ 1000) : numP n = d.take q := by
  cases d with
  | nil => cases h
  | cons b r =>
    have hb0 := hb b List.mem_cons_self
    have hbn : b ≠ 0 := fun z => h0 (by rw [z]; rfl)
    unfold rdN at h
    split at h
    · cases h
      unfold numP
      rw [if_pos (by omega)]
      show [128 + (0 * 128 + b - 128)] = [b]
      congr 1
      omega
    · cases r with
      | nil => cases h
      | cons c r2 =>
        have hc0 := hb c (by simp)
        unfold rdN at h
        split at h
        · cases h
          unfold numP
          rw [if_neg (by omega)]
          show [((0 * 128 + b) * 128 + c - 128) / 128, 128 + ((0 * 128 + b) * 128 + c - 128) % 128] = [b, c]
          have e1 : ((0 * 128 + b) * 128 + c - 128) / 128 = b := by omega
          have e2 : 128 + ((0 * 128 + b) * 128 + c - 128) % 128 = c := by omega
          rw [e1, e2]
        · have := rdN_low r2 _ _ n q (by omega) (fun x m => (hb x (by simp [m])).1) h
          omega
theorem seal_iff (d : List Int) (n : Int) (q : Nat) (hb : ∀ b ∈ d, 0 ≤ b ∧ b < 256) (hd : d.length ≤ 1000) (h : rdP d = .inl (n, q)) (hl : (d.length : Int) = q + 4 + n) :
    sealP (d.drop (q + 4)) = d ↔ (d.drop q).take 4 = four (chkP (d.drop (q + 4)) 1) := by
  obtain ⟨h1, h2, h3, h4, h5⟩ := rdP_facts d n q (fun b m => (hb b m).1) h
  have hn : (((d.drop (q + 4)).length : Nat) : Int) = n := by rw [List.length_drop]; omega
  have e := num_take d n q hb h4 h5 (by omega)
  unfold sealP
  rw [hn, e]
  have sp : d = d.take q ++ (d.drop q).take 4 ++ d.drop (q + 4) := by
    rw [← List.drop_drop, List.append_assoc, List.take_append_drop, List.take_append_drop]
  constructor
  · intro z
    have z2 := z.trans sp
    have z3 := List.append_cancel_right z2
    exact (List.append_cancel_left z3).symm
  · intro z
    rw [← z]
    exact sp.symm
theorem place_spec (d : List Int) (gl : List MObj) (hd : d.length ≤ 1000) (hb : ∀ b ∈ d, 0 ≤ b ∧ b < 256) : f__law_place [.tup (I d)] gl = .ok (match openP d with
    | .inl _ => .non
    | .inr p => .int p) gl := by
  have r := length_spec d gl hd
  unfold openP
  cases e : rdP d with
  | inr p =>
    rw [e] at r
    simp only at r
    simp [f__law_place, mDef, List.replicate, b__law_place, r, as_d, opIsN, isNonRV]
  | inl z =>
    obtain ⟨n, q⟩ := z
    rw [e] at r
    simp only at r
    obtain ⟨h1, h2, h3, _⟩ := rdP_facts d n q (fun b m => (hb b m).1) e
    simp only
    by_cases hl : (d.length : Int) = q + 4 + n
    · have hq : q + 4 ≤ d.length := by omega
      have c2 : cut d (some ((q : Int) + 4)) none = d.drop (q + 4) := by
        have := cut_lo (xs := d) (k := q + 4) hq
        rw [show ((q + 4 : Nat) : Int) = (q : Int) + 4 by omega] at this
        exact this
      have s2 : ∀ s, opSl (some ((q : Int) + 4)) none s (.d (.tup (I d))) = .ok (.d (.tup (I (d.drop (q + 4))))) s := fun s => by rw [q_slT, c2]
      have k1 := law_seal_spec (d.drop (q + 4)) gl (by rw [List.length_drop]; omega)
      have qe : ∀ s, opEq false s (.d (.tup (I (sealP (d.drop (q + 4)))))) (.d (.tup (I d))) = .ok (.d (.bl (decide (sealP (d.drop (q + 4)) = d) != false))) s := fun s => q_eqT
      have iff := seal_iff d n q hb hd e hl
      simp only [hl, if_true]
      by_cases hc : (d.drop q).take 4 = four (chkP (d.drop (q + 4)) 1)
      · have hs := iff.mpr hc
        simp only [hc, if_true]
        simp [-List.map_take, -List.map_drop, f__law_place, mDef, List.replicate, b__law_place, r, as_d, hl, s2, k1, asInt, qe, hs, opIsN, isNonRV]
      · have hs : ¬ sealP (d.drop (q + 4)) = d := fun z => hc (iff.mp z)
        simp only [hc, if_false]
        simp [-List.map_take, -List.map_drop, f__law_place, mDef, List.replicate, b__law_place, r, as_d, hl, s2, k1, asInt, qe, hs, opIsN, isNonRV]
    · simp only [hl, if_false]
      simp [f__law_place, mDef, List.replicate, b__law_place, r, as_d, hl, opIsN, isNonRV]
/-! ### the maths of the seal -/
theorem chk_step_inj (f g b : Int) (h : (f * 257 + b + 1) % 4294967291 = (g * 257 + b + 1) % 4294967291) (f0 : 0 ≤ f) (f1 : f < 4294967291) (g0 : 0 ≤ g) (g1 : g < 4294967291) : f = g := by omega
theorem chk_cons (b : Int) (l : List Int) (f : Int) : chkP (b :: l) f = chkP l ((f * 257 + b + 1) % 4294967291) := rfl
theorem mod_lo (x : Int) : 0 ≤ x % 4294967291 ∧ x % 4294967291 < 4294967291 := ⟨Int.emod_nonneg _ (by omega), Int.emod_lt_of_pos _ (by omega)⟩
theorem chk_inj : ∀ (l : List Int) (f g : Int), chkP l f = chkP l g → 0 ≤ f → f < 4294967291 → 0 ≤ g → g < 4294967291 → f = g
  | [], f, g, h, _, _, _, _ => h
  | b :: l, f, g, h, f0, f1, g0, g1 => by
    rw [chk_cons, chk_cons] at h
    have a := mod_lo (f * 257 + b + 1)
    have c := mod_lo (g * 257 + b + 1)
    exact chk_step_inj f g b (chk_inj l _ _ h a.1 a.2 c.1 c.2) f0 f1 g0 g1
theorem chk_set : ∀ (l : List Int) (j : Nat) (b : Int) (f : Int), (∀ x ∈ l, 0 ≤ x ∧ x < 256) → 0 ≤ b → b < 256 → 0 ≤ f → f < 4294967291 → chkP (l.set j b) f = chkP l f → l.set j b = l
  | [], _, _, _, _, _, _, _, _, _ => rfl
  | c :: l, 0, b, f, hl, b0, b1, f0, f1, h => by
    have hc := hl c List.mem_cons_self
    rw [List.set_cons_zero, chk_cons, chk_cons] at h
    have a := mod_lo (f * 257 + b + 1)
    have d := mod_lo (f * 257 + c + 1)
    have e := chk_inj l _ _ h a.1 a.2 d.1 d.2
    have : b = c := by omega
    rw [List.set_cons_zero, this]
  | c :: l, j + 1, b, f, hl, b0, b1, f0, f1, h => by
    rw [List.set_cons_succ, chk_cons, chk_cons] at h
    have a := mod_lo (f * 257 + c + 1)
    have := chk_set l j b _ (fun x m => hl x (List.mem_cons_of_mem _ m)) b0 b1 a.1 a.2 h
    rw [List.set_cons_succ, this]
theorem chk_swap (f a c : Int) (l : List Int) (ha : 0 ≤ a ∧ a < 256) (hc : 0 ≤ c ∧ c < 256) (f0 : 0 ≤ f) (f1 : f < 4294967291) (h : chkP (a :: c :: l) f = chkP (c :: a :: l) f) : a = c := by
  rw [chk_cons, chk_cons, chk_cons, chk_cons] at h
  have x1 := mod_lo ((f * 257 + a + 1) % 4294967291 * 257 + c + 1)
  have x2 := mod_lo ((f * 257 + c + 1) % 4294967291 * 257 + a + 1)
  have e := chk_inj l _ _ h x1.1 x1.2 x2.1 x2.2
  omega
theorem chk_app (l m : List Int) (f : Int) : chkP (l ++ m) f = chkP m (chkP l f) := by
  unfold chkP
  rw [List.foldl_append]
theorem four_inj (c e : Int) (c0 : 0 ≤ c) (c1 : c < 4294967291) (e0 : 0 ≤ e) (e1 : e < 4294967291) (h : four c = four e) : c = e := by
  unfold four at h
  simp only [List.cons.injEq, and_true] at h
  omega
theorem chk_lo1 (l : List Int) : 0 ≤ chkP l 1 ∧ chkP l 1 < 4294967291 := chk_lo l 1 (by omega) (by omega)
theorem four_bytes (c : Int) (h : 0 ≤ c) (h1 : c < 4294967291) : ∀ b ∈ four c, 0 ≤ b ∧ b < 256 := by
  intro b hb
  unfold four at hb
  simp only [List.mem_cons, List.not_mem_nil, or_false] at hb
  rcases hb with rfl | rfl | rfl | rfl <;> omega
theorem num_bytes (n : Int) (h : 0 ≤ n) (h1 : n < 16384) : ∀ b ∈ numP n, 0 ≤ b ∧ b < 256 := by
  intro b hb
  unfold numP at hb
  split at hb
  · simp only [List.mem_cons, List.not_mem_nil, or_false] at hb
    omega
  · simp only [List.mem_cons, List.not_mem_nil, or_false] at hb
    rcases hb with rfl | rfl <;> omega
theorem seal_bytes (l : List Int) (hl : ∀ b ∈ l, 0 ≤ b ∧ b < 256) (h : l.length ≤ 1000) : ∀ b ∈ sealP l, 0 ≤ b ∧ b < 256 := by
  intro b hb
  unfold sealP at hb
  rcases List.mem_append.mp hb with hb | hb
  · rcases List.mem_append.mp hb with hb | hb
    · exact num_bytes _ (by omega) (by omega) b hb
    · exact four_bytes _ (chk_lo1 l).1 (chk_lo1 l).2 b hb
  · exact hl b hb
theorem rd_num (n : Int) (r : List Int) (h : 0 ≤ n) (h1 : n < 16384) : rdP (numP n ++ r) = .inl (n, (numP n).length) := by
  unfold numP
  split
  · show (if 128 + n = 0 then _ else match rdN ((128 + n) :: r) 0 0 with | some r => _ | none => _) = _
    rw [if_neg (by omega)]
    unfold rdN
    rw [if_pos (by omega)]
    show Sum.inl (0 * 128 + (128 + n) - 128, 1) = Sum.inl (n, 1)
    congr 2
    omega
  · show (if n / 128 = 0 then _ else match rdN (n / 128 :: (128 + n % 128) :: r) 0 0 with | some r => _ | none => _) = _
    rw [if_neg (by omega)]
    unfold rdN
    rw [if_neg (by omega)]
    unfold rdN
    rw [if_pos (by omega)]
    show Sum.inl ((0 * 128 + n / 128) * 128 + (128 + n % 128) - 128, 2) = Sum.inl (n, 2)
    congr 2
    omega
theorem seal_len (l : List Int) : (sealP l).length = (numP l.length).length + 4 + l.length := by
  unfold sealP
  rw [List.length_append, List.length_append, len_four]
theorem open_seal (l : List Int) (h : l.length ≤ 1000) : openP (sealP l) = .inl l := by
  have r := rd_num l.length (four (chkP l 1) ++ l) (by omega) (by omega)
  have e : sealP l = numP l.length ++ (four (chkP l 1) ++ l) := List.append_assoc ..
  unfold openP
  rw [e, r]
  simp only
  have e1 : (numP l.length ++ (four (chkP l 1) ++ l)).drop (numP l.length).length = four (chkP l 1) ++ l := by simp
  have e2 : (numP l.length ++ (four (chkP l 1) ++ l)).drop ((numP l.length).length + 4) = l := by
    rw [← List.drop_drop, e1]
    exact List.drop_left' (len_four _)
  rw [e1, e2, if_pos (by simp only [List.length_append, len_four]; omega), if_pos (List.take_left' (len_four _))]
/-- what opens is a seal -/
theorem open_inl (d t : List Int) (hb : ∀ b ∈ d, 0 ≤ b ∧ b < 256) (hd : d.length ≤ 1000) (h : openP d = .inl t) : d = sealP t := by
  unfold openP at h
  cases e : rdP d with
  | inr p => rw [e] at h; cases h
  | inl z =>
    obtain ⟨n, q⟩ := z
    rw [e] at h
    simp only at h
    split at h
    · rename_i hl
      split at h
      · rename_i hc
        cases h
        exact ((seal_iff d n q hb hd e hl).mpr hc).symm
      · cases h
    · cases h
theorem open_take (l : List Int) (k : Nat) (hl : ∀ b ∈ l, 0 ≤ b ∧ b < 256) (h : l.length ≤ 900) (hk : k < (sealP l).length) : ∃ p, openP ((sealP l).take k) = .inr p := by
  cases e : openP ((sealP l).take k) with
  | inr p => exact ⟨p, rfl⟩
  | inl t =>
    exfalso
    have hlen := seal_len l
    have hn2 := len_num l.length
    have q := open_inl _ t (fun x hx => seal_bytes l hl (by omega) x (List.mem_of_mem_take hx)) (by rw [List.length_take]; omega) e
    have ql := congrArg List.length q
    rw [List.length_take, Nat.min_eq_left (Nat.le_of_lt hk), seal_len] at ql
    have r1 := rd_num l.length (four (chkP l 1) ++ l) (by omega) (by omega)
    have r2 := rd_num t.length (four (chkP t 1) ++ t ++ (sealP l).drop k) (by omega) (by omega)
    have e1 : numP l.length ++ (four (chkP l 1) ++ l) = numP t.length ++ (four (chkP t 1) ++ t ++ (sealP l).drop k) := by
      have z : sealP l = sealP t ++ (sealP l).drop k := by rw [← q, List.take_append_drop]
      rw [← List.append_assoc]
      refine z.trans ?_
      unfold sealP
      simp only [List.append_assoc]
    rw [e1, r2] at r1
    have z1 := (Prod.mk.inj (Sum.inl.inj r1)).1
    have z2 : (t.length : Int) = l.length := z1
    have z3 : t.length = l.length := by omega
    rw [z3] at ql
    omega
theorem open_more (l m : List Int) (h : l.length ≤ 1000) (hm : m ≠ []) : openP (sealP l ++ m) = .inr (sealP l).length := by
  have r := rd_num l.length (four (chkP l 1) ++ l ++ m) (by omega) (by omega)
  have e : sealP l ++ m = numP l.length ++ (four (chkP l 1) ++ l ++ m) := by unfold sealP; simp [List.append_assoc]
  have hm' : 0 < m.length := List.length_pos_iff.mpr hm
  unfold openP
  rw [e, r]
  simp only
  rw [if_neg (by simp only [List.length_append, len_four]; omega), seal_len]
  unfold minI
  rw [if_pos (by simp only [List.length_append, len_four]; omega)]
  congr 1
theorem num_len_mono (a b : Int) (h : (numP a).length + a = (numP b).length + b) : a = b := by
  unfold numP at h
  split at h <;> split at h <;> simp only [List.length_cons, List.length_nil] at h <;> omega
theorem open_hurt (l : List Int) (k : Nat) (b : Int) (hl : ∀ b ∈ l, 0 ≤ b ∧ b < 256) (h : l.length ≤ 900) (b0 : 0 ≤ b) (b1 : b < 256) (hne : (sealP l).set k b ≠ sealP l) : ∃ p, openP ((sealP l).set k b) = .inr p := by
  cases e : openP ((sealP l).set k b) with
  | inr p => exact ⟨p, rfl⟩
  | inl t =>
    exfalso
    have hlen := seal_len l
    have hn2 := len_num l.length
    have hb : ∀ x ∈ (sealP l).set k b, 0 ≤ x ∧ x < 256 := fun x hx => by
      rcases List.mem_or_eq_of_mem_set hx with hx | hx
      · exact seal_bytes l hl (by omega) x hx
      · rw [hx]; exact ⟨b0, b1⟩
    have q := open_inl _ t hb (by rw [List.length_set]; omega) e
    have ql := congrArg List.length q
    rw [List.length_set, seal_len, seal_len] at ql
    have hlt : (l.length : Int) = t.length := num_len_mono _ _ (by omega)
    have hlt' : l.length = t.length := by omega
    have hN : numP (l.length : Int) = numP (t.length : Int) := by rw [hlt]
    have fin : t = l → False := fun z => hne (by rw [q, z])
    unfold sealP at q
    rw [List.append_assoc, List.append_assoc, ← hN, List.set_append] at q
    split at q
    · obtain ⟨_, q2⟩ := List.append_inj q (by rw [List.length_set])
      exact fin (List.append_inj q2 (by rw [len_four, len_four])).2.symm
    · have q2 := List.append_cancel_left q
      rw [List.set_append] at q2
      split at q2
      · exact fin (List.append_inj q2 (by rw [List.length_set, len_four, len_four])).2.symm
      · obtain ⟨q3, q4⟩ := List.append_inj q2 (by rw [len_four, len_four])
        have c1 := four_inj _ _ (chk_lo1 l).1 (chk_lo1 l).2 (chk_lo1 t).1 (chk_lo1 t).2 q3
        rw [← q4] at c1
        exact fin (q4.symm.trans (chk_set l _ b 1 hl b0 b1 (by omega) (by omega) c1.symm))
theorem open_swap (pre post : List Int) (a c : Int) (hb : ∀ b ∈ pre ++ a :: c :: post, 0 ≤ b ∧ b < 256) (h : (pre ++ a :: c :: post).length ≤ 900) (hne : a ≠ c) :
    openP (numP ((pre ++ a :: c :: post).length : Nat) ++ (four (chkP (pre ++ a :: c :: post) 1) ++ (pre ++ c :: a :: post))) = .inr (numP ((pre ++ a :: c :: post).length : Nat)).length := by
  have r := rd_num ((pre ++ a :: c :: post).length : Nat) (four (chkP (pre ++ a :: c :: post) 1) ++ (pre ++ c :: a :: post)) (by omega) (by omega)
  have ll : (pre ++ c :: a :: post).length = (pre ++ a :: c :: post).length := by simp
  unfold openP
  rw [r]
  simp only
  generalize hN : numP ((pre ++ a :: c :: post).length : Nat) = N
  generalize hF : four (chkP (pre ++ a :: c :: post) 1) = F
  have hF4 : F.length = 4 := by rw [← hF]; rfl
  have e1 : (N ++ (F ++ (pre ++ c :: a :: post))).drop N.length = F ++ (pre ++ c :: a :: post) := by simp
  have e2 : (N ++ (F ++ (pre ++ c :: a :: post))).drop (N.length + 4) = pre ++ c :: a :: post := by
    rw [← List.drop_drop, e1]
    exact List.drop_left' hF4
  rw [e1, e2, if_pos (by rw [List.length_append, List.length_append, hF4, ll]; omega), List.take_left' hF4, if_neg]
  intro z
  rw [← hF] at z
  have c1 := four_inj _ _ (chk_lo1 _).1 (chk_lo1 _).2 (chk_lo1 _).1 (chk_lo1 _).2 z
  rw [chk_app, chk_app] at c1
  have ha := hb a (by simp)
  have hc := hb c (by simp)
  exact hne (chk_swap _ a c post ha hc (chk_lo1 pre).1 (chk_lo1 pre).2 c1)
/-! ### the box -/
def Bx (gl : List MObj) : Prop := ∃ (cs : List Int) (a b : Int), gl = [.lst (IL cs), .lst [.ref 0, .int a, .int b]] ∧ 0 ≤ a ∧ 0 ≤ b
theorem box_spec (ns : List Int) : ∃ gl, f__law_box [.scr (ns.map D.int)] [] = .ok (.ref 1) gl ∧ Bx gl := by
  refine ⟨[.lst (IL (cut ns none (some 63))), .lst [.ref 0, .int 0, .int (4711 + ns.length)]], ?_, _, _, _, rfl, by omega, by omega⟩
  have e : cut (ns.map D.int) none (some 63) = IL (cut ns none (some 63)) := cut_il
  simp [f__law_box, mDef, b__law_box, opSl, asTup, asLst, asScr, asInt, e, fLen, asD, lenD]
def ld1 (b : Int) : Int := (b * 48271 + 17) % 2147483629
def ld2 (b : Int) : Int := (ld1 b * 69621 + 5) % 2147483587
def ld3 (b : Int) : Int := (ld2 b * 40692 + 3) % 2147483563
def ldr (b : Int) : Int := ld1 b * 4611686014132420609 + ld2 b * 2147483647 + ld3 b
theorem load_nil (a b : Int) : f__law_load [.ref 1] [.lst [], .lst [.ref 0, .int a, .int b]] = .ok (.int (ldr b)) [.lst [], .lst [.ref 0, .int a, .int (ld3 b)]] := by
  simp [f__law_load, mDef, List.replicate, b__law_load, q_ixL, asLst, atI, ixN, fLen, asD, lenD, q_mulR, q_mulL, q_mod, as_d, ldr, ld1, ld2, ld3]
theorem load_cons (c : Int) (cs : List Int) (a b : Int) : f__law_load [.ref 1] [.lst (.int c :: IL cs), .lst [.ref 0, .int a, .int b]] = (let z := if 0 ≤ c then 2 * c else -2 * c - 1
    if 1000000000000000000 ≤ z then .ok (.int z) [.lst (IL cs), .lst [.ref 0, .int a, .int b]] else
      let b' := (b * 69621 + z * 48271 + 11) % 2147483647
      .ok (.int (ldr b')) [.lst (IL cs), .lst [.ref 0, .int a, .int (ld3 b')]]) := by
  by_cases hc : 0 ≤ c
  · by_cases hz : 1000000000000000000 ≤ 2 * c
    · simp [f__law_load, mDef, List.replicate, b__law_load, q_ixL, asLst, atI, ixN, fLen, asD, lenD, q_mulR, q_mulL, q_mod, as_d, ldr, ld1, ld2, ld3, hc, hz, fPopAt, seqIndex?]
    · simp [f__law_load, mDef, List.replicate, b__law_load, q_ixL, asLst, atI, ixN, fLen, asD, lenD, q_mulR, q_mulL, q_mod, as_d, ldr, ld1, ld2, ld3, hc, hz, fPopAt, seqIndex?]
  · by_cases hz : 1000000000000000000 ≤ -2 * c - 1
    · simp [f__law_load, mDef, List.replicate, b__law_load, q_ixL, asLst, atI, ixN, fLen, asD, lenD, q_mulR, q_mulL, q_mod, as_d, ldr, ld1, ld2, ld3, hc, hz, fPopAt, seqIndex?]
    · simp [f__law_load, mDef, List.replicate, b__law_load, q_ixL, asLst, atI, ixN, fLen, asD, lenD, q_mulR, q_mulL, q_mod, as_d, ldr, ld1, ld2, ld3, hc, hz, fPopAt, seqIndex?]
theorem em_lo (x y : Int) (h : 0 < y) : 0 ≤ x % y := Int.emod_nonneg _ (by omega)
theorem ldr_nonneg (b : Int) : 0 ≤ ldr b ∧ 0 ≤ ld3 b := by
  have h1 := em_lo (b * 48271 + 17) 2147483629 (by omega)
  have h2 := em_lo (ld1 b * 69621 + 5) 2147483587 (by omega)
  have h3 := em_lo (ld2 b * 40692 + 3) 2147483563 (by omega)
  unfold ldr
  refine ⟨?_, h3⟩
  have e1 : 0 ≤ ld1 b := h1
  have e2 : 0 ≤ ld2 b := h2
  have e3 : 0 ≤ ld3 b := h3
  omega
theorem load_spec (cs : List Int) (a b : Int) (hb : 0 ≤ b) : ∃ r cs' b', f__law_load [.ref 1] [.lst (IL cs), .lst [.ref 0, .int a, .int b]] = .ok (.int r) [.lst (IL cs'), .lst [.ref 0, .int a, .int b']] ∧ 0 ≤ r ∧ 0 ≤ b' := by
  cases cs with
  | nil => exact ⟨ldr b, [], ld3 b, load_nil a b, (ldr_nonneg b).1, (ldr_nonneg b).2⟩
  | cons c cs =>
    have e := load_cons c cs a b
    simp only at e
    split at e
    · split at e
      · rename_i hz
        exact ⟨_, cs, b, e, by omega, hb⟩
      · exact ⟨_, cs, _, e, (ldr_nonneg _).1, (ldr_nonneg _).2⟩
    · split at e
      · rename_i hz
        exact ⟨_, cs, b, e, by omega, hb⟩
      · exact ⟨_, cs, _, e, (ldr_nonneg _).1, (ldr_nonneg _).2⟩
theorem draw_spec (gl : List MObj) (m : Int) (h : Bx gl) (h0 : 0 < m) (h1 : m ≤ 1000000) : ∃ r gl', f__law_draw [.ref 1, .int m] gl = .ok (.int r) gl' ∧ 0 ≤ r ∧ r < m ∧ Bx gl' := by
  obtain ⟨cs, a, b, rfl, ha, hb⟩ := h
  have h2 : m < 1073741824 := by omega
  by_cases hm : a < m
  · obtain ⟨r, cs', b', e, r0, b0⟩ := load_spec cs a b hb
    refine ⟨r % m, [.lst (IL cs'), .lst [.ref 0, .int (r / m), .int b']], ?_, em_lo _ _ h0, Int.emod_lt_of_pos _ h0, cs', r / m, b', rfl, Int.ediv_nonneg r0 (by omega), b0⟩
    simp [f__law_draw, mDef, List.replicate, b__law_draw, q_ixL, asLst, atI, ixN, as_d, hm, e, q_mod, q_fdiv, h0, h2]
  · refine ⟨a % m, [.lst (IL cs), .lst [.ref 0, .int (a / m), .int b]], ?_, em_lo _ _ h0, Int.emod_lt_of_pos _ h0, cs, a / m, b, rfl, Int.ediv_nonneg ha (by omega), hb⟩
    simp [f__law_draw, mDef, List.replicate, b__law_draw, q_ixL, asLst, atI, ixN, as_d, hm, q_mod, q_fdiv, h0, h2]
/-! ### same -/
mutual
inductive Pl : Nat → D → Prop
  | non (n : Nat) : Pl (n + 1) .non
  | bl (n : Nat) (b : Bool) : Pl (n + 1) (.bl b)
  | int (n : Nat) (i : Int) : Pl (n + 1) (.int i)
  | str (n : Nat) (x : Str) : Pl (n + 1) (.str x)
  | tup (n : Nat) (xs : List D) : xs.length ≤ 1000000 → PlL n xs → Pl (n + 1) (.tup xs)
inductive PlL : Nat → List D → Prop
  | nil (n : Nat) : PlL n []
  | cons (n : Nat) (x : D) (xs : List D) : Pl n x → PlL n xs → PlL n (x :: xs)
end
theorem PlL.get {n : Nat} : ∀ {xs : List D} {k : Nat} {x : D}, PlL n xs → xs[k]? = some x → Pl n x
  | _, 0, _, .cons _ _ _ h _, e => by simp at e; subst e; exact h
  | _, k + 1, _, .cons _ _ _ _ t, e => PlL.get t (by simpa using e)
theorem same_refl (gl : List MObj) : ∀ (n : Nat) (x : D), Pl n x → f__law_same n [x, x] gl = .ok (.bl true) gl := by
  intro n
  induction n with
  | zero => intro x h; cases h
  | succ n ih =>
    intro x h
    cases h with
    | non => simp [f__law_same, mDef, List.replicate, b__law_same, fIsi, asD, tyD, isTy, truthD, opIsN, isNonRV]
    | bl _ b => simp [f__law_same, mDef, List.replicate, b__law_same, fIsi, asD, tyD, isTy, truthD, opIsN, isNonRV, opEq, eqvO, eqS]
    | int _ i => simp [f__law_same, mDef, List.replicate, b__law_same, fIsi, asD, tyD, isTy, truthD, opIsN, isNonRV, opEq, eqvO, eqS]
    | str _ z => simp [f__law_same, mDef, List.replicate, b__law_same, fIsi, asD, tyD, isTy, truthD, opIsN, isNonRV, opEq, eqvO, eqS]
    | tup _ xs hl hx =>
      have cm : mComp [2] (iRange1 (mACons (mFn1 fLen (mVar 0)) mANil)) (tgName 2) mYes (e__law_same_1 (f__law_same n)) ⟨[.val (.tup xs), .val (.tup xs), .none], gl⟩ = .ok (.new (.lst ((rangeD 0 xs.length).map fun _ => D.bl true))) ⟨[.val (.tup xs), .val (.tup xs), .none], gl⟩ := by
        refine comp_map (ds := rangeD 0 xs.length) ?_ (by simp) rfl (by rw [rangeD_length]; exact szN _ hl) ?_
        · simp [rng1_nat, hl]
        · intro d hd
          rw [rangeD_map] at hd
          obtain ⟨k, hk, rfl⟩ := List.mem_map.mp hd
          have hk := List.mem_range.mp hk
          obtain ⟨y, hy⟩ : ∃ y, xs[k]? = some y := ⟨_, List.getElem?_eq_getElem hk⟩
          have at_ : atI xs (0 + (k : Int)) = some y := by
            unfold atI ixN
            rw [if_pos (by omega), if_pos (by omega)]
            show xs[((0 : Int) + (k : Int)).toNat]? = _
            rw [show ((0 : Int) + (k : Int)).toNat = k by omega]
            exact hy
          have ix : ∀ s, opIx s (.d (.tup xs)) (.d (.int (0 + (k : Int)))) = .ok (.d y) s := fun s => q_ixT at_
          have r := ih y (hx.get hy)
          simp only [Int.zero_add] at ix
          simp [e__law_same_1, ix, r]
      have al : ∀ k : Nat, blsOf ((rangeD 0 k).map fun _ => D.bl true) = some (List.replicate k true) := fun k => by
        rw [rangeD_map, List.map_map]
        induction k with
        | zero => rfl
        | succ k ihk =>
          rw [List.range_succ_eq_map, List.map_cons, List.map_map]
          have ihk' : blsOf (List.map ((fun x => D.bl true) ∘ fun (k : Nat) => D.int (0 + (k : Int))) (List.range k)) = _ := ihk
          show (blsOf (List.map (((fun x => D.bl true) ∘ fun (k : Nat) => D.int (0 + (k : Int))) ∘ Nat.succ) (List.range k))).map _ = _
          have e2 : List.map (((fun x => D.bl true) ∘ fun (k : Nat) => D.int (0 + (k : Int))) ∘ Nat.succ) (List.range k) = List.map ((fun x => D.bl true) ∘ fun (k : Nat) => D.int (0 + (k : Int))) (List.range k) := List.map_congr_left fun _ _ => rfl
          rw [e2, ihk']
          rfl
      have fa : ∀ s, fAll s (.new (.lst ((rangeD 0 xs.length).map fun _ => D.bl true))) = .ok (.d (.bl true)) s := fun s => by
        unfold fAll
        simp only [asLst, Option.bind_some, al]
        simp
      simp [-ap_Comp, f__law_same, mDef, List.replicate, b__law_same, fIsi, asD, tyD, isTy, truthD, cm, fa]
end K19
namespace K19
open PySem PySem.Spec PyProof.Rows L2 MI
theorem pl_int (n : Nat) (h : 0 < n) (i : Int) : Pl n (.int i) := by cases n with
  | zero => omega
  | succ n => exact .int n i
theorem pl_non (n : Nat) (h : 0 < n) : Pl n .non := by cases n with
  | zero => omega
  | succ n => exact .non n
theorem pl_il (n : Nat) (l : List Int) : PlL (n + 1) (IL l) := by
  induction l with
  | nil => exact .nil _
  | cons a l ih => exact .cons _ _ _ (.int _ _) ih
theorem pl_tupI (n : Nat) (l : List Int) (h : l.length ≤ 1000000) : Pl (n + 2) (.tup (IL l)) := .tup _ _ (by simpa using h) (pl_il n l)
theorem same2 (a b : D) (gl : List MObj) (h : Pl 5 a) (h2 : Pl 5 b) : f__law_same 6 [.tup [a, b], .tup [a, b]] gl = .ok (.bl true) gl :=
  same_refl gl 6 _ (.tup _ _ (by simp) (.cons _ _ _ h (.cons _ _ _ h2 (.nil _))))
/-- prefixes -/
theorem prefix_step (l : List Int) (hl : ∀ b ∈ l, 0 ≤ b ∧ b < 256) (hn : l.length ≤ 400) (gl : List MObj) (k : Nat) (hk : k < (sealP l).length) (c0 c1 c2 c3 c4 c5 e7 e8 e9 e10 c12 e13 e14 : Slot) :
    l_law_5 ⟨[c0, c1, c2, c3, c4, c5, .val (.int k), e7, e8, e9, e10, .val (.tup (I (sealP l))), c12, e13, e14], gl⟩ = .ok .nx ⟨[c0, c1, c2, c3, c4, c5, .val (.int k), e7, e8, e9, e10, .val (.tup (I (sealP l))), c12, e13, e14], gl⟩ := by
  obtain ⟨p, hp⟩ := open_take l k hl (by omega) hk
  have z1 := seal_len l
  have z2 := len_num l.length
  have bt : ∀ x ∈ (sealP l).take k, 0 ≤ x ∧ x < 256 := fun x hx => seal_bytes l hl (by omega) x (List.mem_of_mem_take hx)
  have ht := told_spec ((sealP l).take k) gl (by rw [List.length_take]; omega) (fun x hx => (bt x hx).1)
  have hq := place_spec ((sealP l).take k) gl (by rw [List.length_take]; omega) bt
  rw [hp] at ht hq
  simp only at ht hq
  have sl : ∀ s, opSl none (some (k : Int)) s (.d (.tup (I (sealP l)))) = .ok (.d (.tup (I ((sealP l).take k)))) s := fun s => by rw [q_slT, cut_hi (Nat.le_of_lt hk)]
  have sm := same2 .non (.int p) gl (pl_non _ (by omega)) (pl_int _ (by omega) _)
  simp [-List.map_take, l_law_5, sl, asInt, ht, hq, sm, asD, truthD, opIsN, isNonRV]
/-- one byte changed -/
theorem hurt_step (l : List Int) (hl : ∀ b ∈ l, 0 ≤ b ∧ b < 256) (hn : l.length ≤ 400) (gl : List MObj) (hB : Bx gl) (c0 c2 c3 c4 c5 e6 e7 e8 e9 e10 c12 e13 e14 : Slot) :
    ∃ e6' e13' e14' gl', l_law_4 ⟨[c0, .val (.ref 1), c2, c3, c4, c5, e6, e7, e8, e9, e10, .val (.tup (I (sealP l))), c12, e13, e14], gl⟩ = .ok .nx ⟨[c0, .val (.ref 1), c2, c3, c4, c5, .val e6', e7, e8, e9, e10, .val (.tup (I (sealP l))), c12, .val e13', .val e14'], gl'⟩ ∧ Bx gl' := by
  have z1 := seal_len l
  have z2 := len_num l.length
  obtain ⟨k, gl1, d1, k0, k1, B1⟩ := draw_spec gl (sealP l).length hB (by omega) (by omega)
  obtain ⟨b, gl2, d2, b0, b1, B2⟩ := draw_spec gl1 256 B1 (by omega) (by omega)
  obtain ⟨m, rfl⟩ : ∃ m : Nat, k = m := ⟨k.toNat, by omega⟩
  have hm : m < (sealP l).length := by omega
  have sl1 : ∀ s, opSl none (some (m : Int)) s (.d (.tup (I (sealP l)))) = .ok (.d (.tup (I ((sealP l).take m)))) s := fun s => by rw [q_slT, cut_hi (Nat.le_of_lt hm)]
  have sl2 : ∀ s, opSl (some ((m : Int) + 1)) none s (.d (.tup (I (sealP l)))) = .ok (.d (.tup (I ((sealP l).drop (m + 1))))) s := fun s => by
    rw [q_slT, show ((m : Int) + 1) = ((m + 1 : Nat) : Int) by omega, cut_lo (by omega)]
  have a1 : ∀ s, opAdd s (.d (.tup (I ((sealP l).take m)))) (.d (.tup [.int b])) = .ok (.d (.tup (I ((sealP l).take m ++ [b])))) s := fun s => q_addI (b := [b]) (by rw [List.length_take]; simp; omega)
  have a2 : ∀ s, opAdd s (.d (.tup (I ((sealP l).take m ++ [b])))) (.d (.tup (I ((sealP l).drop (m + 1))))) = .ok (.d (.tup (I ((sealP l).set m b)))) s := fun s => by
    rw [← set_parts _ m b hm]
    exact q_addI (by simp only [List.length_append, List.length_take, List.length_drop, List.length_cons, List.length_nil]; omega)
  have qe : ∀ s, opEq true s (.d (.tup (I ((sealP l).set m b)))) (.d (.tup (I (sealP l)))) = .ok (.d (.bl (decide ((sealP l).set m b = sealP l) != true))) s := fun s => q_eqT
  refine ⟨.int m, .tup (I ((sealP l).set m b)), .int b, gl2, ?_, B2⟩
  by_cases he : (sealP l).set m b = sealP l
  · simp [-List.map_take, -List.map_drop, -List.map_append, l_law_4, d1, d2, as_d, sl1, sl2, asInt, a1, a2, qe, he]
  · obtain ⟨p, hp⟩ := open_hurt l m b hl (by omega) b0 b1 he
    have bt : ∀ x ∈ (sealP l).set m b, 0 ≤ x ∧ x < 256 := fun x hx => by
      rcases List.mem_or_eq_of_mem_set hx with hx | hx
      · exact seal_bytes l hl (by omega) x hx
      · rw [hx]; exact ⟨b0, b1⟩
    have ht := told_spec ((sealP l).set m b) gl2 (by rw [List.length_set]; omega) (fun x hx => (bt x hx).1)
    have hq := place_spec ((sealP l).set m b) gl2 (by rw [List.length_set]; omega) bt
    rw [hp] at ht hq
    simp only at ht hq
    have sm := same_refl gl2 6 (.int p) (pl_int _ (by omega) _)
    simp [-List.map_take, -List.map_drop, -List.map_append, -List.map_set, l_law_4, d1, d2, as_d, sl1, sl2, asInt, a1, a2, qe, he, ht, hq, sm, asD, truthD, opIsN, isNonRV, q_ixT, atI, ixN]
/-- unlike neighbours exchanged -/
theorem swap_step (pre post : List Int) (a c : Int) (l : List Int) (el : l = pre ++ a :: c :: post) (hl : ∀ b ∈ l, 0 ≤ b ∧ b < 256) (hn : l.length ≤ 400) (gl : List MObj) (k : Nat) (hk : k = (numP l.length).length + 4 + pre.length) (c0 c1 c2 c3 c4 e7 e8 e9 e10 c12 e13 e14 : Slot) :
    ∃ e13', l_law_3 ⟨[c0, c1, c2, c3, c4, .val (.int (numP l.length).length), .val (.int k), e7, e8, e9, e10, .val (.tup (I (sealP l))), c12, e13, e14], gl⟩ = .ok .nx ⟨[c0, c1, c2, c3, c4, .val (.int (numP l.length).length), .val (.int k), e7, e8, e9, e10, .val (.tup (I (sealP l))), c12, .val e13', e14], gl⟩ := by
  have z1 := seal_len l
  have z2 := len_num l.length
  have ll : l.length = pre.length + 2 + post.length := by rw [el]; simp; omega
  have W : sealP l = (numP l.length ++ (four (chkP l 1) ++ pre)) ++ a :: c :: post := by
    unfold sealP
    rw [show numP (l.length : Int) ++ four (chkP l 1) ++ l = numP (l.length : Int) ++ four (chkP l 1) ++ (pre ++ a :: c :: post) by rw [← el]]
    simp only [List.append_assoc]
  generalize hA : numP (l.length : Int) ++ (four (chkP l 1) ++ pre) = A at W
  have lA : A.length = k := by rw [← hA, hk]; simp only [List.length_append, len_four]; omega
  have t1 : (sealP l).take k = A := by rw [W]; exact List.take_left' lA
  have t2 : (sealP l).drop (k + 2) = post := by
    rw [W, ← List.drop_drop, List.drop_left' lA]
    rfl
  have g1 : (sealP l)[k]? = some a := by rw [W, List.getElem?_append_right (by omega)]; simp [lA]
  have g2 : (sealP l)[k + 1]? = some c := by rw [W, List.getElem?_append_right (by omega)]; simp [lA]
  have hkl : k + 2 ≤ (sealP l).length := by omega
  have sl1 : ∀ s, opSl none (some (k : Int)) s (.d (.tup (I (sealP l)))) = .ok (.d (.tup (I A))) s := fun s => by rw [q_slT, cut_hi (by omega), t1]
  have sl2 : ∀ s, opSl (some ((k : Int) + 2)) none s (.d (.tup (I (sealP l)))) = .ok (.d (.tup (I post))) s := fun s => by
    rw [q_slT, show ((k : Int) + 2) = ((k + 2 : Nat) : Int) by omega, cut_lo hkl, t2]
  have i1 : ∀ s, opIx s (.d (.tup (I (sealP l)))) (.d (.int k)) = .ok (.d (.int a)) s := fun s => q_ixT (atI_il (by omega) (by simpa using g1))
  have i2 : ∀ s, opIx s (.d (.tup (I (sealP l)))) (.d (.int ((k : Int) + 1))) = .ok (.d (.int c)) s := fun s => q_ixT (atI_il (by omega) (by
    rw [show ((k : Int) + 1).toNat = k + 1 by omega]
    exact g2))
  have a1 : ∀ s, opAdd s (.d (.tup (I A))) (.d (.tup [.int c, .int a])) = .ok (.d (.tup (I (A ++ [c, a])))) s := fun s => q_addI (b := [c, a]) (by simp; omega)
  have a2 : ∀ s, opAdd s (.d (.tup (I (A ++ [c, a])))) (.d (.tup (I post))) = .ok (.d (.tup (I (A ++ [c, a] ++ post)))) s := fun s => q_addI (by simp only [List.length_append, List.length_cons, List.length_nil]; omega)
  have qe : ∀ s, opEq true s (.d (.tup (I (A ++ [c, a] ++ post)))) (.d (.tup (I (sealP l)))) = .ok (.d (.bl (decide (A ++ [c, a] ++ post = sealP l) != true))) s := fun s => q_eqT
  refine ⟨.tup (I (A ++ [c, a] ++ post)), ?_⟩
  by_cases he : A ++ [c, a] ++ post = sealP l
  · simp [-List.map_append, -List.append_assoc, l_law_3, as_d, sl1, sl2, i1, i2, asInt, a1, a2, qe, he]
  · have hac : a ≠ c := fun z => he (by rw [W, z]; simp)
    have hb : ∀ x ∈ A ++ [c, a] ++ post, 0 ≤ x ∧ x < 256 := fun x hx => by
      have : x ∈ sealP l := by
        rw [W]
        simp only [List.mem_append, List.mem_cons, List.not_mem_nil, or_false] at hx ⊢
        rcases hx with (h | h | h) | h
        · exact .inl h
        · exact .inr (.inr (.inl h))
        · exact .inr (.inl h)
        · exact .inr (.inr (.inr h))
      exact seal_bytes l hl (by omega) x this
    have os := open_swap pre post a c (by rw [← el]; exact hl) (by rw [← el]; omega) hac
    rw [← el] at os
    have eh : numP (l.length : Int) ++ (four (chkP l 1) ++ (pre ++ c :: a :: post)) = A ++ [c, a] ++ post := by
      rw [← hA]
      simp
    rw [eh] at os
    have ht := told_spec (A ++ [c, a] ++ post) gl (by simp only [List.length_append, List.length_cons, List.length_nil]; omega) (fun x hx => (hb x hx).1)
    rw [os] at ht
    simp only at ht
    have sm := same2 .non (.int (numP l.length).length) gl (pl_non _ (by omega)) (pl_int _ (by omega) _)
    simp [-List.map_append, -List.append_assoc, l_law_3, as_d, sl1, sl2, i1, i2, asInt, a1, a2, qe, he, ht, sm, asD, truthD]
/-- a draw of bytes -/
theorem bytes_of {ds ys : List D} (h : All2 (fun _ y => ∃ b : Int, y = .int b ∧ 0 ≤ b ∧ b < 256) ds ys) : ∃ l : List Int, ys = IL l ∧ l.length = ds.length ∧ ∀ b ∈ l, 0 ≤ b ∧ b < 256 := by
  induction h with
  | nil => exact ⟨[], rfl, rfl, fun _ h => by cases h⟩
  | cons hx _ ih =>
    obtain ⟨b, rfl, h1, h2⟩ := hx
    obtain ⟨l, rfl, h3, h4⟩ := ih
    refine ⟨b :: l, rfl, by simp [h3], fun x hx => ?_⟩
    rcases List.mem_cons.mp hx with rfl | hx
    · exact ⟨h1, h2⟩
    · exact h4 x hx
end K19
namespace K19
open PySem PySem.Spec PyProof.Rows L2 MI
def NV (x : Slot) : Prop := ∀ o, x ≠ .own o
theorem nv_val (x : D) : NV (.val x) := fun _ h => by cases h
theorem nv_none : NV .none := fun _ h => by cases h
theorem noOwn6 {c0 c1 c2 c3 c4 c5 e6 : Slot} {r : List Slot} (h : NV e6) : noOwn (c0 :: c1 :: c2 :: c3 :: c4 :: c5 :: e6 :: r) [6] = true := by
  cases e6 with
  | none => rfl
  | val x => rfl
  | own o => exact absurd rfl (h o)
theorem elt6 (lean : Int) (h0 : 0 ≤ lean) (h1 : lean < 3) (gl : List MObj) (hB : Bx gl) (c0 c2 c4 c5 e6 : Slot) (r : List Slot) :
    ∃ y gl', mLeak e_law_6 ⟨c0 :: .val (.ref 1) :: c2 :: .val (.int lean) :: c4 :: c5 :: e6 :: r, gl⟩ = .ok y ⟨c0 :: .val (.ref 1) :: c2 :: .val (.int lean) :: c4 :: c5 :: e6 :: r, gl'⟩ ∧ Bx gl' ∧ ∃ b : Int, y = .int b ∧ 0 ≤ b ∧ b < 256 := by
  obtain ⟨a, gl1, d1, a0, a1, B1⟩ := draw_spec gl 256 hB (by omega) (by omega)
  obtain ⟨b, gl2, d2, b0, b1, B2⟩ := draw_spec gl1 2 B1 (by omega) (by omega)
  have e : lean = 0 ∨ lean = 1 ∨ lean = 2 := by omega
  rcases e with rfl | rfl | rfl
  · exact ⟨.int a, gl2, by simp [e_law_6, d1, d2, q_ixT, atI, ixN], B2, a, rfl, a0, a1⟩
  · exact ⟨.int 255, gl2, by simp [e_law_6, d1, d2, q_ixT, atI, ixN], B2, 255, rfl, by omega, by omega⟩
  · exact ⟨.int b, gl2, by simp [e_law_6, d1, d2, q_ixT, atI, ixN], B2, b, rfl, b0, by omega⟩
theorem elt1 (gl : List MObj) (hB : Bx gl) (c0 : Slot) (r : List Slot) :
    ∃ y gl', mLeak e_law_1 ⟨c0 :: .val (.ref 1) :: r, gl⟩ = .ok y ⟨c0 :: .val (.ref 1) :: r, gl'⟩ ∧ Bx gl' ∧ ∃ b : Int, y = .int b ∧ 0 ≤ b ∧ b < 256 := by
  obtain ⟨a, gl1, d1, a0, a1, B1⟩ := draw_spec gl 256 hB (by omega) (by omega)
  exact ⟨.int a, gl1, by simp [e_law_1, d1], B1, a, rfl, a0, a1⟩
theorem elt2 (gl : List MObj) (hB : Bx gl) (c0 : Slot) (r : List Slot) :
    ∃ y gl', mLeak e_law_2 ⟨c0 :: .val (.ref 1) :: r, gl⟩ = .ok y ⟨c0 :: .val (.ref 1) :: r, gl'⟩ ∧ Bx gl' ∧ ∃ b : Int, y = .int b ∧ 0 ≤ b ∧ b < 256 := by
  obtain ⟨a, gl1, d1, a0, a1, B1⟩ := draw_spec gl 256 hB (by omega) (by omega)
  exact ⟨.int a, gl1, by simp [e_law_2, d1], B1, a, rfl, a0, a1⟩
/-- the three comprehensions of bytes -/
theorem data_spec (gl : List MObj) (hB : Bx gl) (lean : Int) (h0 : 0 ≤ lean) (h1 : lean < 3) (c0 c2 c4 c5 e6 : Slot) (h6 : NV e6) (r : List Slot) :
    ∃ (l : List Int) (gl' : List MObj), mComp [6] (iRange1 (mACons (mCall f__law_draw (mACons (mVar 1) (mACons (mC (.int 15)) mANil))) mANil)) (tgName 6) mYes e_law_6 ⟨c0 :: .val (.ref 1) :: c2 :: .val (.int lean) :: c4 :: c5 :: e6 :: r, gl⟩
      = .ok (.new (.lst (IL l))) ⟨c0 :: .val (.ref 1) :: c2 :: .val (.int lean) :: c4 :: c5 :: e6 :: r, gl'⟩ ∧ Bx gl' ∧ l.length ≤ 14 ∧ ∀ b ∈ l, 0 ≤ b ∧ b < 256 := by
  obtain ⟨k, gl1, d1, k0, k1, B1⟩ := draw_spec gl 15 hB (by omega) (by omega)
  have hr := rng1_ok k0 (by omega : k ≤ 1000000)
  obtain ⟨ys, gl', e, B, R⟩ := comp_inv (v := 6) (e := e_law_6) (it := iRange1 (mACons (mCall f__law_draw (mACons (mVar 1) (mACons (mC (.int 15)) mANil))) mANil)) (P := Bx) (R := fun _ y => ∃ b : Int, y = .int b ∧ 0 ≤ b ∧ b < 256) (env := c0 :: .val (.ref 1) :: c2 :: .val (.int lean) :: c4 :: c5 :: e6 :: r) (gl := gl1) (ds := rangeD 0 k.toNat)
    (s0 := ⟨c0 :: .val (.ref 1) :: c2 :: .val (.int lean) :: c4 :: c5 :: e6 :: r, gl⟩) (by simp [d1, hr]) (by simp) (noOwn6 h6) B1 (by rw [rangeD_length]; exact szN _ (by omega)) (fun d _ gl hB => elt6 lean h0 h1 gl hB c0 c2 c4 c5 (.val d) r)
  obtain ⟨l, rfl, hl, hb⟩ := bytes_of R
  rw [rangeD_length] at hl
  exact ⟨l, gl', e, B, by omega, hb⟩
theorem more_spec (gl : List MObj) (hB : Bx gl) (c0 c2 c3 c4 c5 e6 : Slot) (h6 : NV e6) (r : List Slot) :
    ∃ (l : List Int) (gl' : List MObj), mComp [6] (iRange1 (mACons (mBin opAdd (mC (.int 1)) (mCall f__law_draw (mACons (mVar 1) (mACons (mC (.int 3)) mANil)))) mANil)) (tgName 6) mYes e_law_2 ⟨c0 :: .val (.ref 1) :: c2 :: c3 :: c4 :: c5 :: e6 :: r, gl⟩
      = .ok (.new (.lst (IL l))) ⟨c0 :: .val (.ref 1) :: c2 :: c3 :: c4 :: c5 :: e6 :: r, gl'⟩ ∧ Bx gl' ∧ l.length ≤ 3 ∧ l ≠ [] ∧ ∀ b ∈ l, 0 ≤ b ∧ b < 256 := by
  obtain ⟨k, gl1, d1, k0, k1, B1⟩ := draw_spec gl 3 hB (by omega) (by omega)
  have hr := rng1_ok (by omega : 0 ≤ 1 + k) (by omega : 1 + k ≤ 1000000)
  obtain ⟨ys, gl', e, B, R⟩ := comp_inv (v := 6) (e := e_law_2) (it := iRange1 (mACons (mBin opAdd (mC (.int 1)) (mCall f__law_draw (mACons (mVar 1) (mACons (mC (.int 3)) mANil)))) mANil)) (P := Bx) (R := fun _ y => ∃ b : Int, y = .int b ∧ 0 ≤ b ∧ b < 256) (env := c0 :: .val (.ref 1) :: c2 :: c3 :: c4 :: c5 :: e6 :: r) (gl := gl1) (ds := rangeD 0 (1 + k).toNat)
    (s0 := ⟨c0 :: .val (.ref 1) :: c2 :: c3 :: c4 :: c5 :: e6 :: r, gl⟩) (by simp [d1, hr]) (by simp) (noOwn6 h6) B1 (by rw [rangeD_length]; exact szN _ (by omega)) (fun d _ gl hB => elt2 gl hB c0 _)
  obtain ⟨l, rfl, hl, hb⟩ := bytes_of R
  rw [rangeD_length] at hl
  exact ⟨l, gl', e, B, by omega, fun z => by rw [z] at hl; simp at hl; omega, hb⟩
theorem drawn_spec (gl : List MObj) (hB : Bx gl) (c0 c2 c3 c4 c5 e6 : Slot) (h6 : NV e6) (r : List Slot) :
    ∃ (l : List Int) (gl' : List MObj), mComp [6] (iRange1 (mACons (mCall f__law_draw (mACons (mVar 1) (mACons (mC (.int 9)) mANil))) mANil)) (tgName 6) mYes e_law_1 ⟨c0 :: .val (.ref 1) :: c2 :: c3 :: c4 :: c5 :: e6 :: r, gl⟩
      = .ok (.new (.lst (IL l))) ⟨c0 :: .val (.ref 1) :: c2 :: c3 :: c4 :: c5 :: e6 :: r, gl'⟩ ∧ Bx gl' ∧ l.length ≤ 8 ∧ ∀ b ∈ l, 0 ≤ b ∧ b < 256 := by
  obtain ⟨k, gl1, d1, k0, k1, B1⟩ := draw_spec gl 9 hB (by omega) (by omega)
  have hr := rng1_ok k0 (by omega : k ≤ 1000000)
  obtain ⟨ys, gl', e, B, R⟩ := comp_inv (v := 6) (e := e_law_1) (it := iRange1 (mACons (mCall f__law_draw (mACons (mVar 1) (mACons (mC (.int 9)) mANil))) mANil)) (P := Bx) (R := fun _ y => ∃ b : Int, y = .int b ∧ 0 ≤ b ∧ b < 256) (env := c0 :: .val (.ref 1) :: c2 :: c3 :: c4 :: c5 :: e6 :: r) (gl := gl1) (ds := rangeD 0 k.toNat)
    (s0 := ⟨c0 :: .val (.ref 1) :: c2 :: c3 :: c4 :: c5 :: e6 :: r, gl⟩) (by simp [d1, hr]) (by simp) (noOwn6 h6) B1 (by rw [rangeD_length]; exact szN _ (by omega)) (fun d _ gl hB => elt1 gl hB c0 _)
  obtain ⟨l, rfl, hl, hb⟩ := bytes_of R
  rw [rangeD_length] at hl
  exact ⟨l, gl', e, B, by omega, hb⟩
end K19
namespace K19
open PySem PySem.Spec PyProof.Rows L2 MI
theorem prefix_loop (l : List Int) (hl : ∀ b ∈ l, 0 ≤ b ∧ b < 256) (hn : l.length ≤ 400) (gl : List MObj) (c0 c1 c2 c3 c4 c5 e6 e7 e8 e9 e10 c12 e13 e14 : Slot) (h6 : NV e6) :
    ∃ e6', NV e6' ∧ forGo (tgName 6) l_law_5 (rangeD 0 (sealP l).length) ⟨[c0, c1, c2, c3, c4, c5, e6, e7, e8, e9, e10, .val (.tup (I (sealP l))), c12, e13, e14], gl⟩ = .ok .nx ⟨[c0, c1, c2, c3, c4, c5, e6', e7, e8, e9, e10, .val (.tup (I (sealP l))), c12, e13, e14], gl⟩ := by
  obtain ⟨s', h, e6', hv, rfl⟩ := for_inv (t := tgName 6) (p := l_law_5) (Inv := fun s => ∃ e6', NV e6' ∧ s = ⟨[c0, c1, c2, c3, c4, c5, e6', e7, e8, e9, e10, .val (.tup (I (sealP l))), c12, e13, e14], gl⟩) (rangeD 0 (sealP l).length) _ ⟨e6, h6, rfl⟩ (fun d hd s hs => by
    obtain ⟨k, hk, rfl⟩ := mem_rangeD hd
    obtain ⟨x, _, rfl⟩ := hs
    have st := prefix_step l hl hn gl k hk c0 c1 c2 c3 c4 c5 e7 e8 e9 e10 c12 e13 e14
    rw [show ((0 : Int) + (k : Int)) = k by omega]
    exact ⟨_, _, by rw [ap_tgName, as_d (by simp)]; rfl, st, .val (.int k), nv_val _, rfl⟩)
  exact ⟨e6', hv, h⟩
theorem hurt_loop (l : List Int) (hl : ∀ b ∈ l, 0 ≤ b ∧ b < 256) (hn : l.length ≤ 400) (gl : List MObj) (hB : Bx gl) (c0 c2 c3 c4 c5 e6 e7 e8 e9 e10 c12 e13 e14 : Slot) (h6 : NV e6) (n : Nat) :
    ∃ e6' e7' e13' e14' gl', NV e6' ∧ Bx gl' ∧ forGo (tgName 7) l_law_4 (rangeD 0 n) ⟨[c0, .val (.ref 1), c2, c3, c4, c5, e6, e7, e8, e9, e10, .val (.tup (I (sealP l))), c12, e13, e14], gl⟩ = .ok .nx ⟨[c0, .val (.ref 1), c2, c3, c4, c5, e6', e7', e8, e9, e10, .val (.tup (I (sealP l))), c12, e13', e14'], gl'⟩ := by
  obtain ⟨s', h, e6', e7', e13', e14', gl', hv, hB', rfl⟩ := for_inv (t := tgName 7) (p := l_law_4) (Inv := fun s => ∃ e6' e7' e13' e14' gl', NV e6' ∧ Bx gl' ∧ s = ⟨[c0, .val (.ref 1), c2, c3, c4, c5, e6', e7', e8, e9, e10, .val (.tup (I (sealP l))), c12, e13', e14'], gl'⟩) (rangeD 0 n) _ ⟨e6, e7, e13, e14, gl, h6, hB, rfl⟩ (fun d hd s hs => by
    obtain ⟨x6, x7, x13, x14, g, _, B, rfl⟩ := hs
    obtain ⟨y6, y13, y14, g', st, B'⟩ := hurt_step l hl hn g B c0 c2 c3 c4 c5 x6 (.val d) e8 e9 e10 c12 x13 x14
    exact ⟨_, _, by rw [ap_tgName, as_d (by simp)]; rfl, st, .val y6, .val d, .val y13, .val y14, g', nv_val _, B', rfl⟩)
  exact ⟨e6', e7', e13', e14', gl', hv, hB', h⟩
theorem swap_loop (l : List Int) (hl : ∀ b ∈ l, 0 ≤ b ∧ b < 256) (hn : l.length ≤ 400) (gl : List MObj) (c0 c1 c2 c3 c4 e6 e7 e8 e9 e10 c12 e13 e14 : Slot) (h6 : NV e6) :
    ∃ e6' e13', NV e6' ∧ forGo (tgName 6) l_law_3 (rangeD (((numP l.length).length : Int) + 4) (((sealP l).length : Int) - 1 - (((numP l.length).length : Int) + 4)).toNat) ⟨[c0, c1, c2, c3, c4, .val (.int (numP l.length).length), e6, e7, e8, e9, e10, .val (.tup (I (sealP l))), c12, e13, e14], gl⟩
      = .ok .nx ⟨[c0, c1, c2, c3, c4, .val (.int (numP l.length).length), e6', e7, e8, e9, e10, .val (.tup (I (sealP l))), c12, e13', e14], gl⟩ := by
  have z1 := seal_len l
  obtain ⟨s', h, e6', e13', hv, rfl⟩ := for_inv (t := tgName 6) (p := l_law_3) (Inv := fun s => ∃ e6' e13', NV e6' ∧ s = ⟨[c0, c1, c2, c3, c4, .val (.int (numP l.length).length), e6', e7, e8, e9, e10, .val (.tup (I (sealP l))), c12, e13', e14], gl⟩)
    (rangeD (((numP l.length).length : Int) + 4) (((sealP l).length : Int) - 1 - (((numP l.length).length : Int) + 4)).toNat) _ ⟨e6, e13, h6, rfl⟩ (fun d hd s hs => by
    obtain ⟨j, hj, rfl⟩ := mem_rangeD hd
    obtain ⟨x6, x13, _, rfl⟩ := hs
    have hjl : j + 1 < l.length := by omega
    have el : l = l.take j ++ l[j] :: l[j + 1] :: l.drop (j + 2) := by
      have e1 : l.drop j = l[j] :: l.drop (j + 1) := List.drop_eq_getElem_cons (by omega)
      have e2 : l.drop (j + 1) = l[j + 1] :: l.drop (j + 2) := List.drop_eq_getElem_cons (by omega)
      rw [← e2, ← e1, List.take_append_drop]
    obtain ⟨y13, st⟩ := swap_step (l.take j) (l.drop (j + 2)) l[j] l[j + 1] l el hl hn gl ((numP l.length).length + 4 + j) (by rw [List.length_take]; omega) c0 c1 c2 c3 c4 e7 e8 e9 e10 c12 x13 e14
    rw [show (((numP l.length).length : Int) + 4 + (j : Int)) = (((numP l.length).length + 4 + j : Nat) : Int) by omega]
    exact ⟨_, _, by rw [ap_tgName, as_d (by simp)]; rfl, st, .val (.int _), .val y13, nv_val _, rfl⟩)
  exact ⟨e6', e13', hv, h⟩
theorem turn_step (turn : Nat) (gl : List MObj) (hB : Bx gl) (c0 e3 e4 e5 e6 e7 e8 e9 e10 e11 e12 e13 e14 : Slot) (h6 : NV e6) :
    ∃ x3 x4 x5 x6 x7 x8 x9 x10 x11 x12 x13 x14 gl', l_law_7 ⟨[c0, .val (.ref 1), .val (.int turn), e3, e4, e5, e6, e7, e8, e9, e10, e11, e12, e13, e14], gl⟩ = .ok .nx ⟨[c0, .val (.ref 1), .val (.int turn), x3, x4, x5, x6, x7, x8, x9, x10, x11, x12, x13, x14], gl'⟩ ∧ NV x6 ∧ Bx gl' := by
  obtain ⟨lean, gl1, d1, l0, l1, B1⟩ := draw_spec gl 3 hB (by omega) (by omega)
  obtain ⟨l, gl2, d2, B2, hl, hb⟩ := data_spec gl1 B1 lean l0 l1 c0 (.val (.int turn)) e4 e5 e6 h6 [e7, e8, e9, e10, e11, e12, e13, e14]
  unfold l_law_7
  rw [seq_nx (s1 := ⟨[c0, .val (.ref 1), .val (.int turn), .val (.int lean), e4, e5, e6, e7, e8, e9, e10, e11, e12, e13, e14], gl1⟩) (by simp [d1, as_d])]
  rw [seq_nx (s1 := ⟨[c0, .val (.ref 1), .val (.int turn), .val (.int lean), .val (.tup (IL l)), e5, e6, e7, e8, e9, e10, e11, e12, e13, e14], gl2⟩) (by simp [-ap_Comp, d2, as_d])]
  -- the data
  obtain ⟨m, gl3, h3, B3, hm, hmb⟩ : ∃ (m : List Int) (gl3 : List MObj), (mSet 4 (mIf (mBl (mBin (opEq false) (mVar 2) (mC (.int 0)))) (mBin opMul (mVar 4) (mBin opAdd (mC (.int 1)) (mBin opMul (mC (.int 13)) (mCall f__law_draw (mACons (mVar 1) (mACons (mC (.int 2)) mANil)))))) (mVar 4)))
      ⟨[c0, .val (.ref 1), .val (.int turn), .val (.int lean), .val (.tup (IL l)), e5, e6, e7, e8, e9, e10, e11, e12, e13, e14], gl2⟩ = .ok .nx ⟨[c0, .val (.ref 1), .val (.int turn), .val (.int lean), .val (.tup (IL m)), e5, e6, e7, e8, e9, e10, e11, e12, e13, e14], gl3⟩ ∧ Bx gl3 ∧ m.length ≤ 200 ∧ ∀ b ∈ m, 0 ≤ b ∧ b < 256 := by
    by_cases ht : turn = 0
    · subst ht
      obtain ⟨k, gl3, d3, k0, k1, B3⟩ := draw_spec gl2 2 B2 (by omega) (by omega)
      have ek : k = 0 ∨ k = 1 := by omega
      rcases ek with rfl | rfl
      · exact ⟨l, gl3, by simp [d3, as_d, q_mulL, q_mulT1], B3, by omega, hb⟩
      · refine ⟨(List.replicate 14 l).flatten, gl3, ?_, B3, ?_, ?_⟩
        · have q : ∀ s, opMul s (.d (.tup (IL l))) (.d (.int 14)) = .ok (.d (.tup (IL (List.replicate 14 l).flatten))) s := fun s => by
            rw [q_mulT (by omega) (by omega) (by simp; omega)]
            simp [IL, List.map_flatten]
          simp [d3, as_d, q_mulL, q]
        · simp; omega
        · intro b hbm
          obtain ⟨z, hz, hbz⟩ := List.mem_flatten.mp hbm
          rw [(List.mem_replicate.mp hz).2] at hbz
          exact hb b hbz
    · have ht' : ¬ (turn : Int) = 0 := by omega
      exact ⟨l, gl2, by simp [as_d, ht], B2, by omega, hb⟩
  rw [seq_nx h3]
  have z1 := seal_len m
  have z2 := len_num m.length
  have hpl : (numP (m.length : Int)).length + 4 ≤ (sealP m).length := by omega
  have s1 := law_seal_spec m gl3 (by omega)
  have s2 := law_check_spec m gl3
  have s3 := check_of_spec m gl3
  have s4 := check_bytes_spec (chkP m 1) gl3
  have s5 := sealed_spec m gl3 (by omega)
  rw [seq_nx (s1 := ⟨[c0, .val (.ref 1), .val (.int turn), .val (.int lean), .val (.tup (IL m)), e5, e6, e7, e8, e9, e10, .val (.tup (I (sealP m))), .val (.int (chkP m 1)), e13, e14], gl3⟩) (by simp [s1, s2, as_d])]
  have pe : ((sealP m).length : Int) - (m.length : Int) - 4 = ((numP (m.length : Int)).length : Int) := by omega
  rw [seq_nx (s1 := ⟨[c0, .val (.ref 1), .val (.int turn), .val (.int lean), .val (.tup (IL m)), .val (.int (numP (m.length : Int)).length), e6, e7, e8, e9, e10, .val (.tup (I (sealP m))), .val (.int (chkP m 1)), e13, e14], gl3⟩) (by simp [as_d, pe])]
  -- the first test
  have bm := seal_bytes m hmb (by omega)
  have t1 := told_spec (sealP m) gl3 (by omega) (fun x hx => (bm x hx).1)
  rw [open_seal m (by omega)] at t1
  simp only at t1
  have fo : ((sealP m).drop (numP (m.length : Int)).length).take 4 = four (chkP m 1) := by
    unfold sealP
    rw [List.append_assoc, List.drop_left' rfl, List.take_left' (len_four _)]
  have sl : ∀ s, opSl (some ((numP (m.length : Int)).length : Int)) (some (((numP (m.length : Int)).length : Int) + 4)) s (.d (.tup (I (sealP m)))) = .ok (.d (.tup (I (four (chkP m 1))))) s := fun s => by
    rw [q_slT, show (((numP (m.length : Int)).length : Int) + 4) = (((numP (m.length : Int)).length + 4 : Nat) : Int) by omega, cut_lohi (by omega) hpl]
    rw [show (numP (m.length : Int)).length + 4 - (numP (m.length : Int)).length = 4 by omega, fo]
  have sm1 := same_refl gl3 6 (.tup [.int (chkP m 1), .tup (I (four (chkP m 1))), .tup (I (sealP m))]) (.tup _ _ (by simp) (.cons _ _ _ (pl_int _ (by omega) _) (.cons _ _ _ (pl_tupI 3 _ (by rw [len_four]; omega)) (.cons _ _ _ (pl_tupI 3 _ (by omega)) (.nil _)))))
  have sm2 := same2 (.tup (I m)) .non gl3 (pl_tupI 3 _ (by omega)) (pl_non _ (by omega))
  rw [seq_nx (s1 := ⟨[c0, .val (.ref 1), .val (.int turn), .val (.int lean), .val (.tup (IL m)), .val (.int (numP (m.length : Int)).length), e6, e7, e8, e9, e10, .val (.tup (I (sealP m))), .val (.int (chkP m 1)), e13, e14], gl3⟩)
    (by simp [s3, s4, s5, sl, asInt, sm1, sm2, t1, asD, truthD])]
  -- the three loops
  obtain ⟨f6, hf6, p1⟩ := prefix_loop m hmb (by omega) gl3 c0 (.val (.ref 1)) (.val (.int turn)) (.val (.int lean)) (.val (.tup (IL m))) (.val (.int (numP (m.length : Int)).length)) e6 e7 e8 e9 e10 (.val (.int (chkP m 1))) e13 e14 h6
  have szW : (sealP m).length ≤ 1000000 := by omega
  rw [seq_nx (s1 := ⟨[c0, .val (.ref 1), .val (.int turn), .val (.int lean), .val (.tup (IL m)), .val (.int (numP (m.length : Int)).length), f6, e7, e8, e9, e10, .val (.tup (I (sealP m))), .val (.int (chkP m 1)), e13, e14], gl3⟩)
    (by simp [rng1_nat, szW]; exact p1)]
  obtain ⟨g6, g7, g13, g14, gl4, hg6, B4, p2⟩ := hurt_loop m hmb (by omega) gl3 B3 c0 (.val (.int turn)) (.val (.int lean)) (.val (.tup (IL m))) (.val (.int (numP (m.length : Int)).length)) f6 e7 e8 e9 e10 (.val (.int (chkP m 1))) e13 e14 hf6 14
  rw [seq_nx (s1 := ⟨[c0, .val (.ref 1), .val (.int turn), .val (.int lean), .val (.tup (IL m)), .val (.int (numP (m.length : Int)).length), g6, g7, e8, e9, e10, .val (.tup (I (sealP m))), .val (.int (chkP m 1)), g13, g14], gl4⟩)
    (by simp [rng1_ok]; exact p2)]
  obtain ⟨w6, w13, hw6, p3⟩ := swap_loop m hmb (by omega) gl4 c0 (.val (.ref 1)) (.val (.int turn)) (.val (.int lean)) (.val (.tup (IL m))) g6 g7 e8 e9 e10 (.val (.int (chkP m 1))) g13 g14 hg6
  have r2 := rng2_ok (i := ((numP (m.length : Int)).length : Int) + 4) (j := ((sealP m).length : Int) - 1) (by omega) (by omega) (by omega) (by omega)
  rw [seq_nx (s1 := ⟨[c0, .val (.ref 1), .val (.int turn), .val (.int lean), .val (.tup (IL m)), .val (.int (numP (m.length : Int)).length), w6, g7, e8, e9, e10, .val (.tup (I (sealP m))), .val (.int (chkP m 1)), w13, g14], gl4⟩)
    (by simp [r2]; exact p3)]
  -- more
  obtain ⟨mo, gl5, d5, B5, ml, mne, mb⟩ := more_spec gl4 B4 c0 (.val (.int turn)) (.val (.int lean)) (.val (.tup (IL m))) (.val (.int (numP (m.length : Int)).length)) w6 hw6 [g7, e8, e9, e10, .val (.tup (I (sealP m))), .val (.int (chkP m 1)), w13, g14]
  rw [seq_nx (s1 := ⟨[c0, .val (.ref 1), .val (.int turn), .val (.int lean), .val (.tup (IL m)), .val (.int (numP (m.length : Int)).length), w6, g7, .val (.tup (IL mo)), e9, e10, .val (.tup (I (sealP m))), .val (.int (chkP m 1)), w13, g14], gl5⟩)
    (by simp [-ap_Comp, d5, as_d])]
  have bt : ∀ (x : List Int), (∀ b ∈ x, 0 ≤ b ∧ b < 256) → ∀ b ∈ sealP m ++ x, 0 ≤ b := fun x hx b hb => by
    rcases List.mem_append.mp hb with hb | hb
    · exact (bm b hb).1
    · exact (hx b hb).1
  have t2 := told_spec (sealP m ++ mo) gl5 (by rw [List.length_append]; omega) (bt mo mb)
  have t3 := told_spec (sealP m ++ sealP m) gl5 (by rw [List.length_append]; omega) (bt _ bm)
  rw [open_more m mo (by omega) mne] at t2
  rw [open_more m (sealP m) (by omega) (fun z => by rw [z] at hpl; simp at hpl)] at t3
  simp only at t2 t3
  have a1 : ∀ s, opAdd s (.d (.tup (I (sealP m)))) (.d (.tup (IL mo))) = .ok (.d (.tup (I (sealP m ++ mo)))) s := fun s => q_addI (by omega)
  have a2 : ∀ s, opAdd s (.d (.tup (I (sealP m)))) (.d (.tup (I (sealP m)))) = .ok (.d (.tup (I (sealP m ++ sealP m)))) s := fun s => q_addI (by omega)
  have sm3 := same2 .non (.int (sealP m).length) gl5 (pl_non _ (by omega)) (pl_int _ (by omega) _)
  rw [seq_nx (s1 := ⟨[c0, .val (.ref 1), .val (.int turn), .val (.int lean), .val (.tup (IL m)), .val (.int (numP (m.length : Int)).length), w6, g7, .val (.tup (IL mo)), e9, e10, .val (.tup (I (sealP m))), .val (.int (chkP m 1)), w13, g14], gl5⟩)
    (by simp [-List.map_append, a1, a2, t2, t3, sm3, asD, truthD])]
  -- drawn
  obtain ⟨dr, gl6, d6, B6, dl, db⟩ := drawn_spec gl5 B5 c0 (.val (.int turn)) (.val (.int lean)) (.val (.tup (IL m))) (.val (.int (numP (m.length : Int)).length)) w6 hw6 [g7, .val (.tup (IL mo)), e9, e10, .val (.tup (I (sealP m))), .val (.int (chkP m 1)), w13, g14]
  rw [seq_nx (s1 := ⟨[c0, .val (.ref 1), .val (.int turn), .val (.int lean), .val (.tup (IL m)), .val (.int (numP (m.length : Int)).length), w6, g7, .val (.tup (IL mo)), .val (.tup (IL dr)), e10, .val (.tup (I (sealP m))), .val (.int (chkP m 1)), w13, g14], gl6⟩)
    (by simp [-ap_Comp, d6, as_d])]
  have q1 := place_spec dr gl6 (by omega) db
  have q2 := told_spec dr gl6 (by omega) (fun b hb => (db b hb).1)
  refine ⟨.val (.int lean), .val (.tup (IL m)), .val (.int (numP (m.length : Int)).length), w6, g7, .val (.tup (IL mo)), .val (.tup (IL dr)), .val (match openP dr with | .inl _ => .non | .inr p => .int p), .val (.tup (I (sealP m))), .val (.int (chkP m 1)), w13, g14, gl6, ?_, hw6, B6⟩
  cases eo : openP dr with
  | inl t =>
    rw [eo] at q1 q2
    simp only at q1 q2
    have sm4 := same_refl gl6 6 .non (pl_non _ (by omega))
    simp [q1, q2, as_d, sm4, q_ixT, atI, ixN, asD, truthD]
  | inr p =>
    rw [eo] at q1 q2
    simp only at q1 q2
    have sm4 := same_refl gl6 6 (.int p) (pl_int _ (by omega) _)
    simp [q1, q2, as_d, sm4, q_ixT, atI, ixN, asD, truthD]
theorem plain : ∀ ns : List Int, ns.length ≤ 63 → ∃ gl, f_law [.scr (ns.map D.int)] [] = .ok (.bl true) gl := by
  intro ns _
  obtain ⟨gl0, h0, B0⟩ := box_spec ns
  obtain ⟨s', h, x2, x3, x4, x5, x6, x7, x8, x9, x10, x11, x12, x13, x14, gl, hv, B, rfl⟩ := for_inv (t := tgName 2) (p := l_law_7) (Inv := fun s => ∃ x2 x3 x4 x5 x6 x7 x8 x9 x10 x11 x12 x13 x14 gl, NV x6 ∧ Bx gl ∧ s = ⟨[.val (.scr (ns.map D.int)), .val (.ref 1), x2, x3, x4, x5, x6, x7, x8, x9, x10, x11, x12, x13, x14], gl⟩)
    (rangeD 0 4) ⟨[.val (.scr (ns.map D.int)), .val (.ref 1), .none, .none, .none, .none, .none, .none, .none, .none, .none, .none, .none, .none, .none], gl0⟩ ⟨_, _, _, _, _, _, _, _, _, _, _, _, _, _, nv_none, B0, rfl⟩ (fun d hd s hs => by
    obtain ⟨k, hk, rfl⟩ := mem_rangeD hd
    obtain ⟨y2, y3, y4, y5, y6, y7, y8, y9, y10, y11, y12, y13, y14, g, hv, B, rfl⟩ := hs
    obtain ⟨w3, w4, w5, w6, w7, w8, w9, w10, w11, w12, w13, w14, g', st, hv', B'⟩ := turn_step k g B (.val (.scr (ns.map D.int))) y3 y4 y5 y6 y7 y8 y9 y10 y11 y12 y13 y14 hv
    rw [show ((0 : Int) + (k : Int)) = k by omega]
    exact ⟨_, _, by rw [ap_tgName, as_d (by simp)]; rfl, st, _, _, _, _, _, _, _, _, _, _, _, _, _, g', hv', B', rfl⟩)
  refine ⟨gl, ?_⟩
  have c1 := check_of_spec [] gl
  have c2 := sealed_spec [1] gl (by simp)
  have e1 : chkP [] 1 = 1 := rfl
  have e2 : sealP [1] = [129, 3, 1, 0, 0, 1] := by decide
  rw [e1] at c1
  rw [e2] at c2
  simp at c1 c2
  simp [f_law, mDef, List.replicate, b_law, h0, as_d, rng1_ok, h, c1, c2, opEq, asD, eqvO, eqAll, eqS]
end K19
namespace K19
open PySem PySem.Spec PyProof.Rows L2 MI
abbrev mt (i j : Nat) : Stmt := inClass (tp i) j
theorem bbs_BadBytes : BbS PySem.Challenge.pw_postingstold_k19_whole_seals (defArgs (mt 2 0)) (defScope (mt 2 0)) (bbOf (defBody (mt 2 0))) "place" "BadBytes.__init__" := ⟨by decide +kernel, fun env h => ⟨_, by cases env; cases h; rfl⟩, fun env h => (by cases env; cases h; exact ⟨rfl, rfl, rfl⟩), fun env h => (by cases env; cases h; exact ⟨rfl, rfl⟩), ⟨_, rfl, rfl⟩, fun _ _ _ _ _ _ _ _ => rfl, rfl, rfl, rfl, by decide +kernel, by decide +kernel, by decide +kernel, by decide +kernel, by decide +kernel, by decide +kernel, by decide +kernel⟩
def hdFa : List He.Fa := [.free "len", .glo "byte_at", .int "GROUP" 128, .glo "number_bytes", .glo "read_number", .int "STEP" 257, .int "ROUND" 4294967291, .glo "check_of", .glo "check_bytes", .free "tuple", .glo "sealed", .free "min", .int "CHECK" 4, .glo "opened", .free "list", .glo "_law_box", .free "int", .glo "_law_load", .glo "_law_draw", .free "isinstance", .free "str", .free "bool", .free "range", .free "all", .glo "_law_same", .glo "_law_number", .glo "_law_check", .glo "_law_seal", .glo "_law_told", .glo "_law_length", .glo "_law_place", .glo "law"]
def hdFn : List He.DefD := [⟨("byte_at", none), "byte_at", "byte_at", defArgs (tp 5), defBody (tp 5), defScope (tp 5), [], []⟩, ⟨("number_bytes", none), "number_bytes", "number_bytes", defArgs (tp 6), defBody (tp 6), defScope (tp 6), [], []⟩, ⟨("read_number", none), "read_number", "read_number", defArgs (tp 7), defBody (tp 7), defScope (tp 7), [], []⟩, ⟨("check_of", none), "check_of", "check_of", defArgs (tp 12), defBody (tp 12), defScope (tp 12), [], []⟩, ⟨("check_bytes", none), "check_bytes", "check_bytes", defArgs (tp 13), defBody (tp 13), defScope (tp 13), [], []⟩, ⟨("sealed", none), "sealed", "sealed", defArgs (tp 14), defBody (tp 14), defScope (tp 14), [], []⟩, ⟨("opened", none), "opened", "opened", defArgs (tp 15), defBody (tp 15), defScope (tp 15), [], []⟩, ⟨("_law_box", none), "_law_box", "_law_box", defArgs (tp 17), defBody (tp 17), defScope (tp 17), [], []⟩, ⟨("_law_load", none), "_law_load", "_law_load", defArgs (tp 18), defBody (tp 18), defScope (tp 18), [], []⟩, ⟨("_law_draw", none), "_law_draw", "_law_draw", defArgs (tp 19), defBody (tp 19), defScope (tp 19), [], []⟩, ⟨("_law_same", none), "_law_same", "_law_same", defArgs (tp 20), defBody (tp 20), defScope (tp 20), [], []⟩, ⟨("_law_number", none), "_law_number", "_law_number", defArgs (tp 21), defBody (tp 21), defScope (tp 21), [], []⟩, ⟨("_law_check", none), "_law_check", "_law_check", defArgs (tp 22), defBody (tp 22), defScope (tp 22), [], []⟩, ⟨("_law_seal", none), "_law_seal", "_law_seal", defArgs (tp 23), defBody (tp 23), defScope (tp 23), [], []⟩, ⟨("_law_told", none), "_law_told", "_law_told", defArgs (tp 24), defBody (tp 24), defScope (tp 24), [], []⟩, ⟨("_law_length", none), "_law_length", "_law_length", defArgs (tp 25), defBody (tp 25), defScope (tp 25), [], []⟩, ⟨("_law_place", none), "_law_place", "_law_place", defArgs (tp 26), defBody (tp 26), defScope (tp 26), [], []⟩, ⟨("law", none), "law", "law", defArgs (tp 27), defBody (tp 27), defScope (tp 27), [], []⟩]
def hdIn : List InD := [⟨"BadBytes", "place", "BadBytes.__init__", defArgs (mt 2 0), bbOf (defBody (mt 2 0)), defScope (mt 2 0)⟩]
def hdTu : List (Str × List He.Dv) := []
def hd : HdX := ⟨4, PySem.Challenge.pw_postingstold_k19_whole_seals.main.file, hdFa, hdFn, hdIn, hdTu⟩
def loose0 : List Str := ["GROUP", "ROUND", "STEP", "CHECK", "FindError", "BadBytes", "byte_at", "number_bytes", "read_number", "check_of", "check_bytes", "sealed", "opened", "_law_box", "_law_load", "_law_draw", "_law_same", "_law_number", "_law_check", "_law_seal", "_law_told", "_law_length", "_law_place"]
def loose : List Str := loose0
abbrev R : PySem.W.OpenRow := PySem.W.OpenLaw.row PySem.Challenge.rw_postingstold_k19_whole_seals
theorem run (w : World) : HandSHeadRun.RunEq R (PySem.W.view R.prog [27]) hd.hook hd.ob 4000 loose w := by
  intro os
  kernel_rfl
theorem facts {K : PySem.W.Frag} {h : Heap} {mg : Str → Option Value} (X : K.In h) (G : h.Ns mainGlobals mg) (c : hd.says K) : Fx PySem.Challenge.pw_postingstold_k19_whole_seals K mg where
  g_len := c.free X G 0
  x_BadBytes := c.exc rfl X G 0 bbs_BadBytes
  d_byte_at := c.def_ X G 0 1
  v_GROUP := c.gint X G 2
  d_number_bytes := c.def_ X G 1 3
  d_read_number := c.def_ X G 2 4
  v_STEP := c.gint X G 5
  v_ROUND := c.gint X G 6
  d_check_of := c.def_ X G 3 7
  d_check_bytes := c.def_ X G 4 8
  g_tuple := c.free X G 9
  d_sealed := c.def_ X G 5 10
  g_min := c.free X G 11
  v_CHECK := c.gint X G 12
  d_opened := c.def_ X G 6 13
  g_list := c.free X G 14
  d__law_box := c.def_ X G 7 15
  g_int := c.free X G 16
  d__law_load := c.def_ X G 8 17
  d__law_draw := c.def_ X G 9 18
  g_isinstance := c.free X G 19
  g_str := c.free X G 20
  g_bool := c.free X G 21
  g_range := c.free X G 22
  g_all := c.free X G 23
  d__law_same := c.def_ X G 10 24
  d__law_number := c.def_ X G 11 25
  d__law_check := c.def_ X G 12 26
  d__law_seal := c.def_ X G 13 27
  d__law_told := c.def_ X G 14 28
  d__law_length := c.def_ X G 15 29
  d__law_place := c.def_ X G 16 30
  d_law := c.def_ X G 17 31
end K19
open PySem PySem.W PySem.Calls PyProof.Rows MI in
theorem PySem.Challenge.cw_postingstold_k19_whole_seals_holds : PySem.Challenge.rw_postingstold_k19_whole_seals.Holds := by
  w_on; o_law
  refine HandSHeadRun.head_any (r := K19.R) (q := view K19.R.prog [27]) (H := K19.hd.hook) (ob := K19.hd.ob) (M := 4000) (loose := K19.loose) (d := HandSHeadRun.topDef K19.R.prog 27) (kwd := []) K19.hd.ob_eq
    (by kernel_rfl) (fun s => by kernel_rfl) K19.run (by kernel_rfl) (by kernel_rfl) (by kernel_rfl) (by rfl) (by first | assumption | decide +kernel) (by decide +kernel) ⟨rfl, rfl, rfl, rfl, rfl, by decide +kernel⟩ ?hw ?hc
  case hw => w_witness2
  case hc =>
    refine L2.walk_ofE (l := PySem.Challenge.rw_postingstold_k19_whole_seals) (n := 63) (k := 8) (x := "script") (CX := CXw PySem.Challenge.pw_postingstold_k19_whole_seals) rfl (by decide) (by kernel_rfl) ⟨rfl, by decide, by decide⟩ ?F law_out
    intro w mg fa h Y G hmg0
    obtain ⟨K, KX, c⟩ := Y
    have hmg : mg ("law" : PySem.Str) = some (.ref fa) := by
      have e : (HandSHeadRun.topDef K19.R.prog 27).name = ("law" : PySem.Str) := by kernel_rfl
      rw [← e]
      exact hmg0
    exact law_end KX hmg (fun base => K19.F_law (K19.facts KX G c)) K19.plain
